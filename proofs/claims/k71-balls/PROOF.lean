import PyProof.Rows.All
import Wide.All
import OpenK.AllK
import Wide.FinOn
import HandS.ForMost
import HandS.ForExc
import HandS.Flow
import HandS.TupAny
import HandS.Deep
import HandS.Wide
import HandS.IsInst
import HandS.Defaults
import HandS.ExcOwn
import HandS.TryOnly
import HandS.Conv
import HandS.Style
import HandS.RaiseMore
import HandS.Text
import PyProof.CallStr
import HandS.TupLe
import PyProof.TupleOfStr
import HandS.Words
import HandS.Dict
import HandS.Ends
import HandS.HeadEnd
import HandS.Head0
import HandS.Head1
import HandS.Head2
import HandS.HeadHook1
import HandS.HeadHook2
import HandS.HeadHook4
import HandS.ExcIs
import PyProof.ExcBaseAll.ValueError
import HandS.Exc
import KE.SortData
import PyProof.ReprRoads
import PyProof.Rows.SortWalk
import PySem.Challenge.RW_shapewhole_k71_balls_and_spheres
import KE.KIntText
set_option Elab.async false
set_option linter.all false
set_option maxRecDepth 100000
namespace Z
open PySem L2

/-! ### values, slots, answers -/
abbrev D := PyData
/-- a slot: nothing known, a value that never changes any more, an own list or dict, a list of the caller's that may be changed -/
inductive Sl where
  | no | sh (d : D) | ow (d : D) | rf (d : D)
abbrev Gam := List Sl
inductive R where
  | nx (g : Gam) | va (s : Sl) (g : Gam) | ret (s : Sl) (g : Gam) | brk (g : Gam) | ct (g : Gam) | exc (c : Nat) (g : Gam) | err

def keyD : Key → D
  | .inl i => .int i
  | .inr x => .str x
def tkD (ks : List Key) : D := .tuple (ks.map keyD)

/-- a dict at a: its keys as data, its values -/
def DcAt (H : Hp) (a : Addr) (ks : List D) (xs : List V) : Prop :=
  (∃ es : List (Key × V), Rd H a (.dK es) ∧ es.map (·.2) = xs ∧ ks = es.map fun e => keyD e.1) ∨
  (∃ es : List (List Key × V), H a = some (.dT es) ∧ es.map (·.2) = xs ∧ ks = es.map fun e => tkD e.1)
/-- an own dict -/
def DcO (H : Hp) (a : Addr) (ks : List D) (xs : List V) : Prop :=
  (∃ es : List (Key × V), H a = some (.dK es) ∧ es.map (·.2) = xs ∧ ks = es.map fun e => keyD e.1) ∨
  (∃ es : List (List Key × V), H a = some (.dT es) ∧ es.map (·.2) = xs ∧ ks = es.map fun e => tkD e.1)

mutual
/-- v is the datum d in H, and nothing of it lies at an address of O -/
def Rp (O : Addr → Prop) (H : Hp) : D → V → Prop
  | .none, v => v = .non
  | .bool b, v => v = .bl b
  | .int i, v => v = .int i
  | .str x, v => v = .str x
  | .list ds, v => ∃ a xs, v = .ref a ∧ ¬ O a ∧ Rd H a (.lst xs) ∧ RpAll O H ds xs
  | .tuple ds, v => ∃ a xs, v = .ref a ∧ ¬ O a ∧ Rd H a (.tup xs) ∧ RpAll O H ds xs
  | .dict kvs, v => ∃ a xs, v = .ref a ∧ ¬ O a ∧ DcAt H a (kvs.map (·.1)) xs ∧ RpSnd O H kvs xs
def RpAll (O : Addr → Prop) (H : Hp) : List D → List V → Prop
  | [], xs => xs = []
  | d :: ds, xs => ∃ y ys, xs = y :: ys ∧ Rp O H d y ∧ RpAll O H ds ys
def RpSnd (O : Addr → Prop) (H : Hp) : List (D × D) → List V → Prop
  | [], xs => xs = []
  | (_, d) :: ds, xs => ∃ y ys, xs = y :: ys ∧ Rp O H d y ∧ RpSnd O H ds ys
end

section
variable {O O' : Addr → Prop} {H H' : Hp}
theorem rd_move (h : ∀ a o, H a = some o → ¬ O a → H' a = some o ∧ ¬ O' a) {a : Addr} {u : HO} (n : ¬ O a) (r : Rd H a u) : Rd H' a u ∧ ¬ O' a := by
  rcases r with r | ⟨o, r⟩
  · exact ⟨.inl (h a _ r n).1, (h a _ r n).2⟩
  · exact ⟨.inr ⟨o, (h a _ r n).1⟩, (h a _ r n).2⟩
theorem dc_move (h : ∀ a o, H a = some o → ¬ O a → H' a = some o ∧ ¬ O' a) {a : Addr} {ks : List D} {xs : List V} (n : ¬ O a) (r : DcAt H a ks xs) : DcAt H' a ks xs ∧ ¬ O' a := by
  rcases r with ⟨es, r, q⟩ | ⟨es, r, q⟩
  · exact ⟨.inl ⟨es, (rd_move h n r).1, q⟩, (rd_move h n r).2⟩
  · exact ⟨.inr ⟨es, (h a _ r n).1, q⟩, (h a _ r n).2⟩
mutual
theorem Rp.move (h : ∀ a o, H a = some o → ¬ O a → H' a = some o ∧ ¬ O' a) : ∀ (d : D) (v : V), Rp O H d v → Rp O' H' d v
  | .none, _, x => x
  | .bool _, _, x => x
  | .int _, _, x => x
  | .str _, _, x => x
  | .list ds, _, ⟨a, xs, e, n, r, q⟩ => ⟨a, xs, e, (rd_move h n r).2, (rd_move h n r).1, RpAll.move h ds xs q⟩
  | .tuple ds, _, ⟨a, xs, e, n, r, q⟩ => ⟨a, xs, e, (rd_move h n r).2, (rd_move h n r).1, RpAll.move h ds xs q⟩
  | .dict kvs, _, ⟨a, xs, e, n, r, q⟩ => ⟨a, xs, e, (dc_move h n r).2, (dc_move h n r).1, RpSnd.move h kvs xs q⟩
theorem RpAll.move (h : ∀ a o, H a = some o → ¬ O a → H' a = some o ∧ ¬ O' a) : ∀ (ds : List D) (xs : List V), RpAll O H ds xs → RpAll O' H' ds xs
  | [], _, x => x
  | d :: ds, _, ⟨y, ys, e, q1, q2⟩ => ⟨y, ys, e, Rp.move h d y q1, RpAll.move h ds ys q2⟩
theorem RpSnd.move (h : ∀ a o, H a = some o → ¬ O a → H' a = some o ∧ ¬ O' a) : ∀ (ds : List (D × D)) (xs : List V), RpSnd O H ds xs → RpSnd O' H' ds xs
  | [], _, x => x
  | (_, d) :: ds, _, ⟨y, ys, e, q1, q2⟩ => ⟨y, ys, e, Rp.move h d y q1, RpSnd.move h ds ys q2⟩
end
theorem RpAll.length : ∀ {ds : List D} {xs : List V}, RpAll O H ds xs → xs.length = ds.length
  | [], _, x => by have e : _ = [] := x; rw [e]; rfl
  | d :: ds, _, ⟨y, ys, e, _, q⟩ => by rw [e, List.length_cons, List.length_cons, RpAll.length q]
theorem RpSnd.length : ∀ {ds : List (D × D)} {xs : List V}, RpSnd O H ds xs → xs.length = ds.length
  | [], _, x => by have e : _ = [] := x; rw [e]; rfl
  | (_, d) :: ds, _, ⟨y, ys, e, _, q⟩ => by rw [e, List.length_cons, List.length_cons, RpSnd.length q]
theorem RpAll.get : ∀ {ds : List D} {xs : List V} {i : Nat} {d : D}, RpAll O H ds xs → ds[i]? = some d → ∃ v, xs[i]? = some v ∧ Rp O H d v
  | [], _, _, _, _, h => by simp at h
  | d :: ds, _, 0, d', ⟨y, ys, e, q, _⟩, h => by
    simp at h; subst h; subst e; exact ⟨y, rfl, q⟩
  | d :: ds, _, i + 1, d', ⟨y, ys, e, _, q⟩, h => by
    subst e
    obtain ⟨v, h1, h2⟩ := RpAll.get (i := i) q (by simpa using h)
    exact ⟨v, by simpa using h1, h2⟩
theorem RpAll.get' : ∀ {ds : List D} {xs : List V} {i : Nat} {v : V}, RpAll O H ds xs → xs[i]? = some v → ∃ d, ds[i]? = some d ∧ Rp O H d v
  | [], _, _, _, x, h => by have e : _ = [] := x; rw [e] at h; simp at h
  | d :: ds, _, 0, v, ⟨y, ys, e, q, _⟩, h => by
    subst e; simp at h; subst h; exact ⟨d, rfl, q⟩
  | d :: ds, _, i + 1, v, ⟨y, ys, e, _, q⟩, h => by
    subst e
    obtain ⟨d', h1, h2⟩ := RpAll.get' (i := i) q (by simpa using h)
    exact ⟨d', by simpa using h1, h2⟩
theorem RpAll.nil : RpAll O H [] [] := rfl
theorem RpAll.cons {d : D} {ds : List D} {x : V} {xs : List V} (a : Rp O H d x) (b : RpAll O H ds xs) : RpAll O H (d :: ds) (x :: xs) := ⟨x, xs, rfl, a, b⟩
theorem RpAll.append : ∀ {ds es : List D} {xs ys : List V}, RpAll O H ds xs → RpAll O H es ys → RpAll O H (ds ++ es) (xs ++ ys)
  | [], _, _, _, x, y => by have e : _ = [] := x; rw [e]; exact y
  | d :: ds, _, _, _, ⟨z, zs, e, q, r⟩, y => by rw [e]; exact ⟨z, zs ++ _, rfl, q, RpAll.append r y⟩
theorem RpAll.of_get : ∀ {ds : List D} {xs : List V}, xs.length = ds.length → (∀ (i : Nat) (d : D) (v : V), ds[i]? = some d → xs[i]? = some v → Rp O H d v) → RpAll O H ds xs
  | [], [], _, _ => rfl
  | d :: ds, x :: xs, hl, h => ⟨x, xs, rfl, h 0 d x rfl rfl, RpAll.of_get (by simpa using hl) fun i d v a b => h (i + 1) d v (by simpa using a) (by simpa using b)⟩
  | [], _ :: _, hl, _ => by simp at hl
  | _ :: _, [], hl, _ => by simp at hl
theorem RpAll.set {ds : List D} {xs : List V} {d : D} {v : V} (h : RpAll O H ds xs) (hv : Rp O H d v) (i : Nat) : RpAll O H (ds.set i d) (xs.set i v) := by
  refine RpAll.of_get (by rw [List.length_set, List.length_set]; exact h.length) fun j e w h1 h2 => ?_
  by_cases hj : i = j
  · subst hj
    have hl : i < ds.length := by have := (List.getElem?_eq_some_iff.mp h1).1; simpa using this
    rw [List.getElem?_set_self hl] at h1
    rw [List.getElem?_set_self (by rw [h.length]; exact hl)] at h2
    cases h1; cases h2; exact hv
  · rw [List.getElem?_set_ne hj] at h1 h2
    obtain ⟨w', e1, e2⟩ := h.get h1
    rw [h2] at e1; cases e1; exact e2
theorem RpAll.sub {ds : List D} {xs : List V} (h : RpAll O H ds xs) (f : {α : Type} → List α → List α) (hf : ∀ {α β : Type} (g : α → β) (l : List α), f (l.map g) = (f l).map g) : RpAll O H (f ds) (f xs) := by
  -- both are images of one list of pairs
  have key : ∃ l : List (D × V), l.map (·.1) = ds ∧ l.map (·.2) = xs ∧ ∀ p ∈ l, Rp O H p.1 p.2 := by
    clear hf
    induction ds generalizing xs with
    | nil => exact ⟨[], rfl, by have e : xs = [] := h; rw [e]; rfl, fun p hp => by cases hp⟩
    | cons d ds ih =>
      obtain ⟨y, ys, e, q, r⟩ := h
      obtain ⟨l, e1, e2, e3⟩ := ih r
      refine ⟨(d, y) :: l, by rw [List.map_cons, e1], by rw [List.map_cons, e2, e], fun p hp => ?_⟩
      rcases List.mem_cons.mp hp with e | hp
      · rw [e]; exact q
      · exact e3 p hp
  obtain ⟨l, e1, e2, e3⟩ := key
  have hm : ∀ p ∈ f l, p ∈ l := by
    -- an element of f l: by naturality, f of the list of memberships
    intro p hp
    have : f l = (f (l.attach)).map Subtype.val := by
      rw [← hf]; rw [List.attach_map_subtype_val]
    rw [this] at hp
    obtain ⟨q, _, rfl⟩ := List.mem_map.mp hp
    exact q.2
  rw [← e1, ← e2, hf, hf]
  generalize f l = m at hm
  induction m with
  | nil => rfl
  | cons p m ih => exact ⟨p.2, m.map (·.2), rfl, e3 p (hm p List.mem_cons_self), ih fun q hq => hm q (List.mem_cons_of_mem _ hq)⟩
end

/-- an own list or dict at p, its items in O's complement -/
def RpO (O : Addr → Prop) (H : Hp) (p : Addr) : D → Prop
  | .list ds => ∃ xs, H p = some (.lst xs) ∧ RpAll O H ds xs
  | .dict kvs => ∃ xs, DcO H p (kvs.map (·.1)) xs ∧ RpSnd O H kvs xs
  | _ => False
/-- to be read -/
def RdD (O : Addr → Prop) (H : Hp) (d : D) (v : V) : Prop := Rp O H d v ∨ ∃ p, v = .ref p ∧ RpO O H p d
section
variable {O O' : Addr → Prop} {H H' : Hp} {p : Addr} {d : D} {v : V}
theorem RpO.there : ∀ {d : D}, RpO O H p d → ∃ o, H p = some o
  | .list _, ⟨_, h, _⟩ => ⟨_, h⟩
  | .dict _, ⟨_, .inl ⟨_, h, _⟩, _⟩ => ⟨_, h⟩
  | .dict _, ⟨_, .inr ⟨_, h, _⟩, _⟩ => ⟨_, h⟩
theorem RpO.mut : ∀ {d : D}, RpO O H p d → Mut (H p)
  | .list _, ⟨_, h, _⟩ => by rw [h]; trivial
  | .dict _, ⟨_, .inl ⟨_, h, _⟩, _⟩ => by rw [h]; trivial
  | .dict _, ⟨_, .inr ⟨_, h, _⟩, _⟩ => by rw [h]; trivial
theorem RpO.move (h : ∀ a o, H a = some o → ¬ O a → H' a = some o ∧ ¬ O' a) (hp : ∀ o, H p = some o → H' p = some o) : ∀ {d : D}, RpO O H p d → RpO O' H' p d
  | .list ds, ⟨xs, e, q⟩ => ⟨xs, hp _ e, RpAll.move h ds xs q⟩
  | .dict kvs, ⟨xs, .inl ⟨es, e, r⟩, q⟩ => ⟨xs, .inl ⟨es, hp _ e, r⟩, RpSnd.move h kvs xs q⟩
  | .dict kvs, ⟨xs, .inr ⟨es, e, r⟩, q⟩ => ⟨xs, .inr ⟨es, hp _ e, r⟩, RpSnd.move h kvs xs q⟩
/-- it is given up: a value as others -/
theorem RpO.give (n : ¬ O p) : ∀ {d : D}, RpO O H p d → Rp O H d (.ref p)
  | .list ds, ⟨xs, e, q⟩ => ⟨p, xs, rfl, n, .inl e, q⟩
  | .dict kvs, ⟨xs, .inl ⟨es, e, r⟩, q⟩ => ⟨p, xs, rfl, n, .inl ⟨es, .inl e, r⟩, q⟩
  | .dict kvs, ⟨xs, .inr ⟨es, e, r⟩, q⟩ => ⟨p, xs, rfl, n, .inr ⟨es, e, r⟩, q⟩
end

/-! ### an activation, its invariant -/
/-- a def that runs: the heap and the own objects at its entry, the parameters that it may change, the classes of exceptions by number -/
structure Act where
  H0 : Hp
  O0 : Addr → Prop
  Rf : Nat → Option Addr
  cls : Nat → Option Value
def Sl.isOw : Sl → Bool
  | .ow _ => true
  | .rf _ => true
  | _ => false
structure FI (A : Act) (O : Addr → Prop) (σ : St) (H : Hp) (g : Gam) : Prop where
  sh : ∀ (i : Nat) (d : D), g[i]? = some (.sh d) → ∃ v, σ[i]? = some (some v) ∧ Rp O H d v
  ow : ∀ (i : Nat) (d : D), g[i]? = some (.ow d) → ∃ p, σ[i]? = some (some (.ref p)) ∧ O p ∧ A.H0 p = none ∧ RpO O H p d
  rf : ∀ (i : Nat) (d : D), g[i]? = some (.rf d) → ∃ p, A.Rf i = some p ∧ σ[i]? = some (some (.ref p)) ∧ RpO O H p d
  inj : ∀ (i j : Nat) (s t : Sl) (p : Addr), g[i]? = some s → g[j]? = some t → s.isOw = true → t.isOw = true → σ[i]? = some (some (.ref p)) → σ[j]? = some (some (.ref p)) → i = j
  keep : ∀ a o, A.H0 a = some o → (∀ i, A.Rf i ≠ some a) → H a = some o
  tr : ∀ a o, A.H0 a = some o → ∃ o', H a = some o'
  up : ∀ a, A.O0 a → O a
  fr : ∀ a, O a → A.O0 a ∨ A.H0 a = none
  o0 : ∀ a, A.O0 a → ∃ o, A.H0 a = some o
  ot : ∀ a, O a → ∃ o, H a = some o
  r0 : ∀ i p, A.Rf i = some p → A.O0 p
  len : g.length = σ.length

/-- from (O, H) to (O', H'): what is not own stays; c: all stays -/
def Gr (c : Bool) (O : Addr → Prop) (H : Hp) (O' : Addr → Prop) (H' : Hp) : Prop :=
  (∀ a o, H a = some o → ¬ O a → H' a = some o ∧ ¬ O' a) ∧ (c = true → Same H H')
section
variable {c c' : Bool} {O O1 O2 : Addr → Prop} {H H1 H2 : Hp}
theorem Gr.refl : Gr c O H O H := ⟨fun _ _ e n => ⟨e, n⟩, fun _ => Same.refl H⟩
theorem Gr.trans (a : Gr c O H O1 H1) (b : Gr c' O1 H1 O2 H2) : Gr (c && c') O H O2 H2 :=
  ⟨fun x o e n => b.1 x o (a.1 x o e n).1 (a.1 x o e n).2, fun h => by
    have h := Bool.and_eq_true_iff.mp h
    exact (a.2 h.1).trans (b.2 h.2)⟩
theorem Gr.trT (a : Gr true O H O1 H1) (b : Gr true O1 H1 O2 H2) : Gr true O H O2 H2 := a.trans b
theorem Gr.weak (a : Gr c O H O1 H1) : Gr false O H O1 H1 := ⟨a.1, fun h => nomatch h⟩
theorem Gr.to (a : Gr true O H O1 H1) : Gr c O H O1 H1 := ⟨a.1, fun _ => a.2 rfl⟩
theorem Gr.rp (a : Gr c O H O1 H1) {d : D} {v : V} (h : Rp O H d v) : Rp O1 H1 d v := Rp.move a.1 d v h
theorem Gr.rpAll (a : Gr c O H O1 H1) {d : List D} {v : List V} (h : RpAll O H d v) : RpAll O1 H1 d v := RpAll.move a.1 d v h
theorem Gr.rd (a : Gr true O H O1 H1) {d : D} {v : V} (h : RdD O H d v) : RdD O1 H1 d v := by
  rcases h with h | ⟨p, e, h⟩
  · exact .inl (a.rp h)
  · exact .inr ⟨p, e, RpO.move a.1 (fun o q => a.2 rfl p o q) h⟩
/-- a new object -/
theorem Gr.new {p : Addr} {o : HO} (n : H p = none) (hO : ∀ a, O1 a → O a ∨ a = p) : Gr true O H O1 (upd H p o) :=
  ⟨fun a u e h => by
    have ne : a ≠ p := fun z => by rw [z, n] at e; cases e
    exact ⟨by rw [upd_ne ne]; exact e, fun q => (hO a q).elim h ne⟩, fun _ a u e => by
    have ne : a ≠ p := fun z => by rw [z, n] at e; cases e
    rw [upd_ne ne]; exact e⟩
end
set_option Elab.async false
set_option linter.all false
set_option maxRecDepth 100000
open PySem L2

section
variable {A : Act} {O O' : Addr → Prop} {σ : L2.St} {H H' : Hp} {g : Gam} {p : Addr} {i j : Nat} {d : D} {v : V}
theorem setIs (l : Gam) (i j : Nat) (s : Sl) : (l.set i s)[j]? = if i = j then (if i < l.length then some s else none) else l[j]? := by
  by_cases h : i = j
  · subst h
    rw [if_pos rfl]
    by_cases hl : i < l.length
    · rw [if_pos hl, List.getElem?_set_self hl]
    · rw [if_neg hl, List.getElem?_eq_none (by simpa using hl)]
  · rw [if_neg h, List.getElem?_set_ne h]
theorem setV (l : L2.St) (i j : Nat) (s : Option V) : (l.set i s)[j]? = if i = j then (if i < l.length then some s else none) else l[j]? := by
  by_cases h : i = j
  · subst h
    rw [if_pos rfl]
    by_cases hl : i < l.length
    · rw [if_pos hl, List.getElem?_set_self hl]
    · rw [if_neg hl, List.getElem?_eq_none (by simpa using hl)]
  · rw [if_neg h, List.getElem?_set_ne h]
theorem FI.lt (F : FI A O σ H g) {s : Sl} (h : g[i]? = some s) : i < g.length := (List.getElem?_eq_some_iff.mp h).1
theorem FI.rO (F : FI A O σ H g) (h : A.Rf i = some p) : O p := F.up p (F.r0 i p h)
/-- an address of the entry's heap is tracked, so a new one is none of it -/
theorem FI.h0 (F : FI A O σ H g) (n : H p = none) : A.H0 p = none := by
  cases e : A.H0 p with
  | none => rfl
  | some o => obtain ⟨o', q⟩ := F.tr p o e; rw [n] at q; cases q
theorem FI.nO (F : FI A O σ H g) (n : H p = none) : ¬ O p := fun h => by
  obtain ⟨o, e⟩ := F.ot p h; rw [n] at e; cases e
/-- the address of an own slot -/
theorem FI.at (F : FI A O σ H g) {s : Sl} (h : g[i]? = some s) (o : s.isOw = true) : ∃ q, σ[i]? = some (some (.ref q)) ∧ O q ∧ (∃ u, H q = some u) ∧ Mut (H q) := by
  cases s with
  | no => cases o
  | sh d => cases o
  | ow d => obtain ⟨q, e, hO, _, r⟩ := F.ow i d h; exact ⟨q, e, hO, r.there, r.mut⟩
  | rf d => obtain ⟨q, er, e, r⟩ := F.rf i d h; exact ⟨q, e, F.rO er, r.there, r.mut⟩
theorem FI.free (F : FI A O σ H g) (n : H p = none) : ∀ (i : Nat) (s : Sl), g[i]? = some s → s.isOw = true → σ[i]? ≠ some (some (.ref p)) := fun i s h o e => by
  obtain ⟨q, e', _, ⟨u, hu⟩, _⟩ := F.at h o
  rw [e] at e'
  have : p = q := by injection e' with e'; injection e' with e'; injection e'
  rw [← this, n] at hu; cases hu

/-- more heap, more own objects (new ones) -/
theorem FI.step (F : FI A O σ H g) (sm : Same H H') (up : ∀ a, O a → O' a) (nw : ∀ a, O' a → O a ∨ (H a = none ∧ ∃ o, H' a = some o)) : FI A O' σ H' g := by
  have mv : ∀ a o, H a = some o → ¬ O a → H' a = some o ∧ ¬ O' a := fun a o e n => ⟨sm a o e, fun q => (nw a q).elim n fun z => by rw [z.1] at e; cases e⟩
  refine ⟨fun i d h => ?_, fun i d h => ?_, fun i d h => ?_, F.inj, fun a o e n => sm a o (F.keep a o e n), fun a o e => ?_, fun a h => up a (F.up a h), fun a h => ?_, F.o0, fun a h => ?_, F.r0, F.len⟩
  · obtain ⟨v, e, r⟩ := F.sh i d h; exact ⟨v, e, Rp.move mv d v r⟩
  · obtain ⟨p, e, ho, n, r⟩ := F.ow i d h; exact ⟨p, e, up p ho, n, r.move mv fun o q => sm p o q⟩
  · obtain ⟨p, er, e, r⟩ := F.rf i d h; exact ⟨p, er, e, r.move mv fun o q => sm p o q⟩
  · obtain ⟨o', e'⟩ := F.tr a o e; exact ⟨o', sm a o' e'⟩
  · rcases nw a h with q | ⟨q, _⟩
    · exact F.fr a q
    · exact .inr (F.h0 q)
  · rcases nw a h with q | ⟨_, q⟩
    · obtain ⟨o, e⟩ := F.ot a q; exact ⟨o, sm a o e⟩
    · exact q
theorem same_new {o : HO} (n : H p = none) : Same H (upd H p o) := fun a u e => by
  have ne : a ≠ p := fun z => by rw [z, n] at e; cases e
  rw [upd_ne ne]; exact e
theorem FI.same (F : FI A O σ H g) (sm : Same H H') : FI A O σ H' g := F.step sm (fun _ h => h) fun _ h => .inl h
theorem FI.new (F : FI A O σ H g) {o : HO} (n : H p = none) : FI A O σ (upd H p o) g := F.same (same_new n)
/-- O and p -/
def Oadd (O : Addr → Prop) (p : Addr) : Addr → Prop := fun a => O a ∨ a = p
/-- O without p -/
def Odel (O : Addr → Prop) (p : Addr) : Addr → Prop := fun a => O a ∧ a ≠ p
theorem FI.own (F : FI A O σ H g) {o : HO} (n : H p = none) : FI A (Oadd O p) σ (upd H p o) g :=
  F.step (same_new n) (fun _ h => .inl h) fun a h => h.elim .inl fun e => .inr (by subst e; exact ⟨n, o, upd_same⟩)
theorem odel_move : ∀ a o, H a = some o → ¬ O a → H a = some o ∧ ¬ Odel O p a := fun _ _ e n => ⟨e, fun q => n q.1⟩
/-- an own object that is none of the slots' is given up -/
theorem FI.drop (F : FI A O σ H g) (nz : A.H0 p = none) (ns : ∀ (i : Nat) (s : Sl), g[i]? = some s → s.isOw = true → σ[i]? ≠ some (some (.ref p))) : FI A (Odel O p) σ H g := by
  refine ⟨fun i d h => ?_, fun i d h => ?_, fun i d h => ?_, F.inj, F.keep, F.tr, fun a h => ⟨F.up a h, fun e => ?_⟩, fun a h => F.fr a h.1, F.o0, fun a h => F.ot a h.1, F.r0, F.len⟩
  · obtain ⟨v, e, r⟩ := F.sh i d h; exact ⟨v, e, Rp.move odel_move d v r⟩
  · obtain ⟨q, e, ho, n, r⟩ := F.ow i d h; exact ⟨q, e, ⟨ho, fun z => ns i _ h rfl (by rw [e, z])⟩, n, r.move odel_move fun _ q => q⟩
  · obtain ⟨q, er, e, r⟩ := F.rf i d h; exact ⟨q, er, e, r.move odel_move fun _ q => q⟩
  · subst e; obtain ⟨o, q⟩ := F.o0 a h; rw [nz] at q; cases q
theorem RpO.del (r : RpO O H p d) : Rp (Odel O p) H d (.ref p) := (r.move (O' := Odel O p) odel_move fun _ q => q).give fun q => q.2 rfl
theorem Gr.del {c : Bool} {O1 : Addr → Prop} {H1 : Hp} (a : Gr c O H O1 H1) : Gr c O H (Odel O1 p) H1 := ⟨fun x o e n => ⟨(a.1 x o e n).1, fun q => (a.1 x o e n).2 q.1⟩, a.2⟩
/-- forgetting -/
theorem FI.forget (F : FI A O σ H g) {g' : Gam} (hl : g'.length = g.length) (w : ∀ (i : Nat) (s : Sl), g'[i]? = some s → s = .no ∨ g[i]? = some s) : FI A O σ H g' := by
  have cut : ∀ {i : Nat} {s : Sl}, g'[i]? = some s → s ≠ .no → g[i]? = some s := fun {i s} h n => (w i s h).elim (fun e => absurd e n) id
  refine ⟨fun i d h => F.sh i d (cut h (fun z => nomatch z)), fun i d h => F.ow i d (cut h (fun z => nomatch z)), fun i d h => F.rf i d (cut h (fun z => nomatch z)), fun i j s t p h1 h2 o1 o2 => ?_, F.keep, F.tr, F.up, F.fr, F.o0, F.ot, F.r0, hl.trans F.len⟩
  exact F.inj i j s t p (cut h1 (fun z => by rw [z] at o1; cases o1)) (cut h2 (fun z => by rw [z] at o2; cases o2)) o1 o2
/-- an own slot is given up: from now on it never changes -/
theorem FI.freeze (F : FI A O σ H g) (h : g[i]? = some (.ow d)) (e : σ[i]? = some (some (.ref p))) : FI A (Odel O p) σ H (g.set i (.sh d)) ∧ Rp (Odel O p) H d (.ref p) := by
  obtain ⟨q, e', ho, n, r⟩ := F.ow i d h
  rw [e] at e'
  have : p = q := by injection e' with e'; injection e' with e'; injection e'
  subst this
  have hi := F.lt h
  have G := F.forget (g' := g.set i .no) (by simp) fun j s hs => by
    rw [setIs] at hs
    split at hs
    · cases hs; exact .inl rfl
    · exact .inr hs
  have G2 := G.drop n fun j s hs o z => by
    rw [setIs] at hs
    split at hs
    · cases hs; cases o
    · rename_i hij
      exact hij (F.inj i j _ s p h hs rfl o e z)
  refine ⟨?_, r.del⟩
  have rp := r.del
  have gj : ∀ {j : Nat} {s : Sl}, i ≠ j → (g.set i (.sh d))[j]? = some s → (g.set i .no)[j]? = some s := fun {j s} hij hs => by rw [setIs, if_neg hij] at hs ⊢; exact hs
  have go : ∀ {j : Nat} {s : Sl}, s.isOw = true → (g.set i (.sh d))[j]? = some s → (g.set i .no)[j]? = some s := fun {j s} o hs => by
    by_cases hij : i = j
    · subst hij; rw [setIs, if_pos rfl, if_pos hi] at hs; cases hs; cases o
    · exact gj hij hs
  refine ⟨fun j d' hs => ?_, fun j d' hs => G2.ow j d' (go rfl hs), fun j d' hs => G2.rf j d' (go rfl hs), fun j k s t q h1 h2 o1 o2 => G2.inj j k s t q (go o1 h1) (go o2 h2) o1 o2, G2.keep, G2.tr, G2.up, G2.fr, G2.o0, G2.ot, G2.r0, by rw [List.length_set]; exact F.len⟩
  by_cases hij : i = j
  · subst hij; rw [setIs, if_pos rfl, if_pos hi] at hs; cases hs; exact ⟨_, e, rp⟩
  · exact G2.sh j d' (gj hij hs)
/-- a slot is stored: a value that never changes -/
theorem FI.setSh (F : FI A O σ H g) (hi : i < g.length) (r : Rp O H d v) : FI A O (σ.set i (some v)) H (g.set i (.sh d)) := by
  have hiσ : i < σ.length := by rw [← F.len]; exact hi
  have cut : ∀ {j : Nat} {s : Sl}, i ≠ j → (g.set i (.sh d))[j]? = some s → g[j]? = some s := fun {j s} hij hs => by rw [setIs, if_neg hij] at hs; exact hs
  have ne : ∀ {j : Nat} {s : Sl}, s.isOw = true → (g.set i (.sh d))[j]? = some s → i ≠ j := fun {j s} o hs z => by
    subst z; rw [setIs, if_pos rfl, if_pos hi] at hs; cases hs; cases o
  refine ⟨fun j d' hs => ?_, fun j d' hs => ?_, fun j d' hs => ?_, fun j k s t q h1 h2 o1 o2 e1 e2 => ?_, F.keep, F.tr, F.up, F.fr, F.o0, F.ot, F.r0, by rw [List.length_set, List.length_set]; exact F.len⟩
  · by_cases hij : i = j
    · subst hij; rw [setIs, if_pos rfl, if_pos hi] at hs; cases hs; exact ⟨v, by rw [setV, if_pos rfl, if_pos hiσ], r⟩
    · obtain ⟨w, e, q⟩ := F.sh j d' (cut hij hs); exact ⟨w, by rw [setV, if_neg hij]; exact e, q⟩
  · have hij := ne rfl hs
    obtain ⟨p, e, q⟩ := F.ow j d' (cut hij hs); exact ⟨p, by rw [setV, if_neg hij]; exact e, q⟩
  · have hij := ne rfl hs
    obtain ⟨p, er, e, q⟩ := F.rf j d' (cut hij hs); exact ⟨p, er, by rw [setV, if_neg hij]; exact e, q⟩
  · have hj := ne o1 h1
    have hk := ne o2 h2
    rw [setV, if_neg hj] at e1
    rw [setV, if_neg hk] at e2
    exact F.inj j k s t q (cut hj h1) (cut hk h2) o1 o2 e1 e2
/-- a slot is stored: an own object -/
theorem FI.setOw (F : FI A O σ H g) (hi : i < g.length) (ho : O p) (nz : A.H0 p = none) (r : RpO O H p d)
    (ns : ∀ (i : Nat) (s : Sl), g[i]? = some s → s.isOw = true → σ[i]? ≠ some (some (.ref p))) : FI A O (σ.set i (some (.ref p))) H (g.set i (.ow d)) := by
  have hiσ : i < σ.length := by rw [← F.len]; exact hi
  have cut : ∀ {j : Nat} {s : Sl}, i ≠ j → (g.set i (.ow d))[j]? = some s → g[j]? = some s := fun {j s} hij hs => by rw [setIs, if_neg hij] at hs; exact hs
  refine ⟨fun j d' hs => ?_, fun j d' hs => ?_, fun j d' hs => ?_, fun j k s t q h1 h2 o1 o2 e1 e2 => ?_, F.keep, F.tr, F.up, F.fr, F.o0, F.ot, F.r0, by rw [List.length_set, List.length_set]; exact F.len⟩
  · have hij : i ≠ j := fun z => by subst z; rw [setIs, if_pos rfl, if_pos hi] at hs; cases hs
    obtain ⟨w, e, q⟩ := F.sh j d' (cut hij hs); exact ⟨w, by rw [setV, if_neg hij]; exact e, q⟩
  · by_cases hij : i = j
    · subst hij; rw [setIs, if_pos rfl, if_pos hi] at hs; cases hs; exact ⟨p, by rw [setV, if_pos rfl, if_pos hiσ], ho, nz, r⟩
    · obtain ⟨p, e, q⟩ := F.ow j d' (cut hij hs); exact ⟨p, by rw [setV, if_neg hij]; exact e, q⟩
  · have hij : i ≠ j := fun z => by subst z; rw [setIs, if_pos rfl, if_pos hi] at hs; cases hs
    obtain ⟨p, er, e, q⟩ := F.rf j d' (cut hij hs); exact ⟨p, er, by rw [setV, if_neg hij]; exact e, q⟩
  · by_cases hj : i = j
    · by_cases hk : i = k
      · exact hj.symm.trans hk
      · subst hj
        rw [setV, if_pos rfl, if_pos hiσ] at e1
        rw [setV, if_neg hk] at e2
        have : p = q := by injection e1 with e1; injection e1 with e1; injection e1
        subst this
        exact absurd e2 (ns k t (cut hk h2) o2)
    · by_cases hk : i = k
      · subst hk
        rw [setV, if_pos rfl, if_pos hiσ] at e2
        rw [setV, if_neg hj] at e1
        have : p = q := by injection e2 with e2; injection e2 with e2; injection e2
        subst this
        exact absurd e1 (ns j s (cut hj h1) o1)
      · rw [setV, if_neg hj] at e1
        rw [setV, if_neg hk] at e2
        exact F.inj j k s t q (cut hj h1) (cut hk h2) o1 o2 e1 e2
/-- an own slot's object is changed -/
def Sl.to : Sl → D → Sl
  | .ow _, d => .ow d
  | .rf _, d => .rf d
  | s, _ => s
theorem Sl.to_ow {s : Sl} {d : D} (o : s.isOw = true) : (s.to d).isOw = true := by cases s <;> first | rfl | cases o
theorem FI.write (F : FI A O σ H g) {s : Sl} {o : HO} (h : g[i]? = some s) (ow : s.isOw = true) (e : σ[i]? = some (some (.ref p))) (r : RpO O (upd H p o) p d) : FI A O σ (upd H p o) (g.set i (s.to d)) := by
  have hi := F.lt h
  obtain ⟨q, e', hO, ⟨u, hu⟩, hm⟩ := F.at h ow
  rw [e] at e'
  have : p = q := by injection e' with e'; injection e' with e'; injection e'
  subst this
  have mv : ∀ a o', H a = some o' → ¬ O a → upd H p o a = some o' ∧ ¬ O a := fun a o' ea n => ⟨by rw [upd_ne (fun z => n (by rw [z]; exact hO))]; exact ea, n⟩
  have cut : ∀ {j : Nat} {t : Sl}, i ≠ j → (g.set i (s.to d))[j]? = some t → g[j]? = some t := fun {j t} hij hs => by rw [setIs, if_neg hij] at hs; exact hs
  have hp0 : ∀ a o', A.H0 a = some o' → (∀ i, A.Rf i ≠ some a) → a ≠ p := fun a o' ea na z => by
    subst z
    cases s with
    | no => cases ow
    | sh d => cases ow
    | ow d0 =>
      obtain ⟨q, e1, _, n, _⟩ := F.ow i d0 h
      rw [e] at e1
      have : a = q := by injection e1 with e1; injection e1 with e1; injection e1
      subst this; rw [n] at ea; cases ea
    | rf d0 =>
      obtain ⟨q, er, e1, _⟩ := F.rf i d0 h
      rw [e] at e1
      have : a = q := by injection e1 with e1; injection e1 with e1; injection e1
      subst this; exact na i er
  have self : (g.set i (s.to d))[i]? = some (s.to d) := by rw [setIs, if_pos rfl, if_pos hi]
  refine ⟨fun j d' hs => ?_, fun j d' hs => ?_, fun j d' hs => ?_, fun j k t t' q h1 h2 o1 o2 e1 e2 => ?_, fun a o' ea na => by rw [upd_ne (hp0 a o' ea na)]; exact F.keep a o' ea na, fun a o' ea => ?_, F.up, F.fr, F.o0, fun a ha => ?_, F.r0, by rw [List.length_set]; exact F.len⟩
  · have hij : i ≠ j := fun z => by
      subst z; rw [self] at hs
      cases s with
      | no => cases ow
      | sh d => cases ow
      | ow d => cases hs
      | rf d => cases hs
    obtain ⟨w, e, q⟩ := F.sh j d' (cut hij hs); exact ⟨w, e, Rp.move mv _ _ q⟩
  · by_cases hij : i = j
    · subst hij; rw [self] at hs
      cases s with
      | no => cases ow
      | sh d => cases ow
      | ow d0 =>
        cases hs
        obtain ⟨q, e1, ho, n, _⟩ := F.ow i d0 h
        rw [e] at e1
        have : p = q := by injection e1 with e1; injection e1 with e1; injection e1
        subst this
        exact ⟨p, e, ho, n, r⟩
      | rf d => cases hs
    · obtain ⟨q, eq, ho, n, rq⟩ := F.ow j d' (cut hij hs)
      have hne : q ≠ p := fun z => hij (F.inj i j s _ p h (cut hij hs) ow rfl e (by rw [eq, z]))
      exact ⟨q, eq, ho, n, rq.move mv fun o' q' => by rw [upd_ne hne]; exact q'⟩
  · by_cases hij : i = j
    · subst hij; rw [self] at hs
      cases s with
      | no => cases ow
      | sh d => cases ow
      | ow d => cases hs
      | rf d0 =>
        cases hs
        obtain ⟨q, er, e1, _⟩ := F.rf i d0 h
        rw [e] at e1
        have : p = q := by injection e1 with e1; injection e1 with e1; injection e1
        subst this
        exact ⟨p, er, e, r⟩
    · obtain ⟨q, er, eq, rq⟩ := F.rf j d' (cut hij hs)
      have hne : q ≠ p := fun z => hij (F.inj i j s _ p h (cut hij hs) ow rfl e (by rw [eq, z]))
      exact ⟨q, er, eq, rq.move mv fun o' q' => by rw [upd_ne hne]; exact q'⟩
  · have back : ∀ {j : Nat} {t : Sl}, (g.set i (s.to d))[j]? = some t → t.isOw = true → ∃ t0, g[j]? = some t0 ∧ t0.isOw = true := fun {j t} hs o' => by
      by_cases hij : i = j
      · subst hij; exact ⟨s, h, ow⟩
      · exact ⟨t, cut hij hs, o'⟩
    obtain ⟨t1, q1, q2⟩ := back h1 o1
    obtain ⟨t2, q3, q4⟩ := back h2 o2
    exact F.inj j k t1 t2 q q1 q3 q2 q4 e1 e2
  · by_cases z : a = p
    · subst z; exact ⟨o, upd_same⟩
    · rw [upd_ne z]; exact F.tr a o' ea
  · by_cases z : a = p
    · subst z; exact ⟨o, upd_same⟩
    · rw [upd_ne z]; exact F.ot a ha
theorem Gr.write {c : Bool} {o : HO} (ho : O p) : Gr false O H O (upd H p o) := ⟨fun a u e n => ⟨by rw [upd_ne (fun z => n (by rw [z]; exact ho))]; exact e, n⟩, fun z => nomatch z⟩
end
set_option Elab.async false
set_option linter.all false
set_option maxRecDepth 100000
open PySem L2

/-! ### what is wanted of an answer -/
structure Go (A : Act) (W : WX) (r : R) : Prop where
  ne : r ≠ .err
  ex : ∀ (c : Nat) (g : Gam), r = .exc c g → ∀ (cv : Value) (σ : L2.St) (O : Addr → Prop) (H : Hp), A.cls c = some cv → FI A O σ H g → W cv none σ H
abbrev Pst (α : Type) := (Addr → Prop) → Hp → L2.St → Gam → V → α → Prop
/-- a value that never changes; one to be read; a new own one, or one that never changes -/
def pS : Pst D := fun O H _ _ v d => Rp O H d v
def pR : Pst D := fun O H _ _ v d => RdD O H d v
def VO (A : Act) (O : Addr → Prop) (H : Hp) (σ : L2.St) (g : Gam) (v : V) (d : D) : Prop :=
  ∃ p, v = .ref p ∧ O p ∧ A.H0 p = none ∧ RpO O H p d ∧ ∀ (i : Nat) (s : Sl), g[i]? = some s → s.isOw = true → σ[i]? ≠ some (some (.ref p))
def pF (A : Act) : Pst Sl := fun O H σ g v s => match s with
  | .sh d => Rp O H d v
  | .ow d => VO A O H σ g v d
  | _ => False
def pM (m : Bool) : Pst D := if m = true then pS else pR
/-- an expression's reading -/
def tG {α : Type} (A : Act) (W : WX) (c : Bool) (P : Pst α) (f : Gam → (α → Gam → R) → R) : TE := fun σ H Q =>
  ∃ (O : Addr → Prop) (g : Gam) (k : α → Gam → R) (r : R), FI A O σ H g ∧ f g k = r ∧ Go A W r ∧
    ∀ (v : V) (a : α) (O' : Addr → Prop) (H' : Hp) (g' : Gam), FI A O' σ H' g' → Gr c O H O' H' → P O' H' σ g' v a → k a g' = r → Q v H'
def tGT (A : Act) (W : WX) (c : Bool) (f : Gam → (Bool → Gam → R) → R) : TT := fun σ H Q =>
  ∃ (O : Addr → Prop) (g : Gam) (k : Bool → Gam → R) (r : R), FI A O σ H g ∧ f g k = r ∧ Go A W r ∧
    ∀ (b : Bool) (O' : Addr → Prop) (H' : Hp) (g' : Gam), FI A O' σ H' g' → Gr c O H O' H' → k b g' = r → Q b H'
def RdL (O : Addr → Prop) (H : Hp) : List D → List V → Prop
  | [], vs => vs = []
  | d :: ds, vs => ∃ w ws, vs = w :: ws ∧ RdD O H d w ∧ RdL O H ds ws
def tGL (A : Act) (W : WX) (c : Bool) (n : Nat) (P : (Addr → Prop) → Hp → List D → List V → Prop) (f : Gam → (List D → Gam → R) → R) : TA := fun σ H Q =>
  ∃ (O : Addr → Prop) (g : Gam) (k : List D → Gam → R) (r : R), FI A O σ H g ∧ f g k = r ∧ Go A W r ∧
    ∀ (vs : List V) (ds : List D) (O' : Addr → Prop) (H' : Hp) (g' : Gam), FI A O' σ H' g' → Gr c O H O' H' → P O' H' ds vs → ds.length = n → k ds g' = r → Q vs H'

abbrev KD := D → Gam → R
abbrev KS := Sl → Gam → R
abbrev DnD := Gam → KD → R
abbrev DnS := Gam → KS → R
abbrev DnB := Gam → (Bool → Gam → R) → R
abbrev DnL := Gam → (List D → Gam → R) → R
abbrev DnT := Gam → (Gam → R) → R
structure DS (X : Cx) (W : WX) (A : Act) (c : Bool) (e : Expr) (f : DnD) : Prop where
  pe : PE X e (tG A W c pS f)
structure DR (X : Cx) (W : WX) (A : Act) (c : Bool) (e : Expr) (f : DnD) : Prop where
  pe : PE X e (tG A W c pR f)
structure DF (X : Cx) (W : WX) (A : Act) (c : Bool) (e : Expr) (f : DnS) : Prop where
  pe : PE X e (tG A W c (pF A) f)
structure DB (X : Cx) (W : WX) (A : Act) (c : Bool) (e : Expr) (f : DnB) : Prop where
  pt : PT X e (tGT A W c f)
/-- m: the value holds through whatever comes; else it is to be read at once -/
structure DM (m : Bool) (X : Cx) (W : WX) (A : Act) (c : Bool) (e : Expr) (f : DnD) : Prop where
  pe : PE X e (tG A W c (pM m) f)
def pLM (m : Bool) : (Addr → Prop) → Hp → List D → List V → Prop := if m = true then RpAll else RdL
structure DL (m : Bool) (X : Cx) (W : WX) (A : Act) (c : Bool) (es : List Expr) (f : DnL) : Prop where
  pa : PA X es (tGL A W c es.length (pLM m) f)

section
variable {X : Cx} {W : WX} {A : Act} {c ca cb m m' : Bool} {e a b : Expr}
theorem _root_.L2.PE.imp {t t' : TE} (h : PE X e t) (w : ∀ σ H Q, t' σ H Q → t σ H Q) : PE X e t' := ⟨fun pins s σ H Q I q => h.run pins s σ H Q I (w σ H Q q)⟩
theorem _root_.L2.PT.imp {t t' : TT} (h : PT X e t) (w : ∀ σ H Q, t' σ H Q → t σ H Q) : PT X e t' := ⟨fun pins s σ H Q I q => h.run pins s σ H Q I (w σ H Q q)⟩
theorem _root_.L2.PA.imp {es : List Expr} {t t' : TA} (h : PA X es t) (w : ∀ σ H Q, t' σ H Q → t σ H Q) : PA X es t' := ⟨fun pos pins s σ H Q I q => h.run pos pins s σ H Q I (w σ H Q q)⟩

/-! ### from one judgement to another -/
def kfz (k : KD) : KS := fun s g => match s with
  | .sh d => k d g
  | .ow d => k d g
  | _ => .err
/-- a value, given up -/
def fz (f : DnS) : DnD := fun g k => f g (kfz k)
def shF (f : DnD) : DnS := fun g k => f g fun d g' => k (.sh d) g'
theorem tG_fz {f : DnS} {P : Pst D} (hP : ∀ O H σ g v d, Rp O H d v → P O H σ g v d) {σ : L2.St} {H : Hp} {Q : VK} (h : tG A W c P (fz f) σ H Q) : tG A W c (pF A) f σ H Q := by
  obtain ⟨O, g, k, r, F, e, G, q⟩ := h
  refine ⟨O, g, kfz k, r, F, e, G, fun v s O' H' g' F' gr p e' => ?_⟩
  cases s with
  | no => exact p.elim
  | rf d => exact p.elim
  | sh d => exact q v d O' H' g' F' gr (hP _ _ _ _ _ _ p) e'
  | ow d =>
    obtain ⟨a, rfl, ho, n, ro, ns⟩ := p
    exact q (.ref a) d (Odel O' a) H' g' (F'.drop n ns) gr.del (hP _ _ _ _ _ _ ro.del) e'
theorem DF.s {f : DnS} (h : DF X W A c e f) : DS X W A c e (fz f) := ⟨h.pe.imp fun _ _ _ q => tG_fz (fun _ _ _ _ _ _ x => x) q⟩
theorem DS.r {f : DnD} (h : DS X W A c e f) : DR X W A c e f := ⟨h.pe.imp fun _ _ _ ⟨O, g, k, r, F, e, G, q⟩ => ⟨O, g, k, r, F, e, G, fun v d O' H' g' F' gr p e' => q v d O' H' g' F' gr (.inl p) e'⟩⟩
theorem DF.r {f : DnS} (h : DF X W A c e f) : DR X W A c e (fz f) := h.s.r
theorem DS.f {f : DnD} (h : DS X W A c e f) : DF X W A c e (shF f) := ⟨h.pe.imp fun _ _ _ ⟨O, g, k, r, F, e, G, q⟩ => ⟨O, g, fun d g' => k (.sh d) g', r, F, e, G, fun v d O' H' g' F' gr p e' => q v (.sh d) O' H' g' F' gr p e'⟩⟩
theorem DS.mm {f : DnD} (h : DS X W A c e f) : DM true X W A c e f := ⟨h.pe⟩
theorem DR.mm {f : DnD} (h : DR X W A c e f) : DM false X W A c e f := ⟨h.pe⟩
theorem DF.mm {f : DnS} (h : DF X W A c e f) : DM true X W A c e (fz f) := h.s.mm
theorem pM_rd {O : Addr → Prop} {H : Hp} {σ : L2.St} {g : Gam} {v : V} {d : D} (h : pM m O H σ g v d) : RdD O H d v := by
  cases m with
  | true => exact .inl h
  | false => exact h
theorem pM_keep {O O' : Addr → Prop} {H H' : Hp} {σ σ' : L2.St} {g g' : Gam} {v : V} {d : D} (hm : (m || c) = true) (h : pM m O H σ g v d) (gr : Gr c O H O' H') : pM m O' H' σ' g' v d := by
  cases m with
  | true => exact gr.rp h
  | false =>
    have hc : c = true := by simpa using hm
    subst hc
    exact gr.rd h
theorem DM.r {f : DnD} (h : DM m X W A c e f) : DR X W A c e f := ⟨h.pe.imp fun _ _ _ ⟨O, g, k, r, F, e, G, q⟩ => ⟨O, g, k, r, F, e, G, fun v d O' H' g' F' gr p e' => q v d O' H' g' F' gr (pM_rd p) e'⟩⟩

/-! ### values that are made -/
/-- a value s is made in H, the heap behind it H' -/
def Res (O : Addr → Prop) (H H' : Hp) (v : V) (s : Sl) : Prop := Same H H' ∧ match s with
  | .sh d => Rp O H' d v
  | .ow d => ∃ p, v = .ref p ∧ H p = none ∧ RpO (Oadd O p) H' p d
  | _ => False
/-- a value is made of what was read: to a new answer of the same context -/
theorem Res.pF {O : Addr → Prop} {H H' : Hp} {σ : L2.St} {g : Gam} {v : V} {s : Sl} (r : Res O H H' v s) (F : FI A O σ H g) : ∃ O', FI A O' σ H' g ∧ Gr true O H O' H' ∧ pF A O' H' σ g v s := by
  obtain ⟨sm, r⟩ := r
  cases s with
  | no => exact r.elim
  | rf d => exact r.elim
  | sh d => exact ⟨O, F.same sm, ⟨fun a o e n => ⟨sm a o e, n⟩, fun _ => sm⟩, r⟩
  | ow d =>
    obtain ⟨p, rfl, n, r⟩ := r
    refine ⟨Oadd O p, F.step sm (fun _ h => .inl h) (fun a h => h.elim .inl fun e => .inr (by subst e; exact ⟨n, r.there⟩)), ⟨fun a o e h => ⟨sm a o e, fun q => q.elim h fun z => by subst z; rw [n] at e; cases e⟩, fun _ => sm⟩, p, rfl, .inr rfl, F.h0 n, r, F.free n⟩
abbrev OT (O : Addr → Prop) (H : Hp) : Prop := ∀ a, O a → ∃ o, H a = some o
theorem OT.n {O : Addr → Prop} {H : Hp} (h : OT O H) {p : Addr} (n : H p = none) : ¬ O p := fun q => by obtain ⟨o, e⟩ := h p q; rw [n] at e; cases e
theorem mv_new {O : Addr → Prop} {H : Hp} {p : Addr} {o : HO} (n : H p = none) : ∀ a u, H a = some u → ¬ O a → upd H p o a = some u ∧ ¬ O a := fun a u e h => ⟨same_new n a u e, h⟩
theorem mv_add {O : Addr → Prop} {H : Hp} {p : Addr} {o : HO} (n : H p = none) : ∀ a u, H a = some u → ¬ O a → upd H p o a = some u ∧ ¬ Oadd O p a := fun a u e h => ⟨same_new n a u e, fun q => q.elim h fun z => by subst z; rw [n] at e; cases e⟩
theorem res_sh {O : Addr → Prop} {H : Hp} {v : V} {d : D} (r : Rp O H d v) : Res O H H v (.sh d) := ⟨Same.refl H, r⟩
theorem res_tup {O : Addr → Prop} {H : Hp} {p : Addr} {ds : List D} {xs : List V} (ot : OT O H) (n : H p = none) (r : RpAll O H ds xs) : Res O H (upd H p (.tup xs)) (.ref p) (.sh (.tuple ds)) :=
  ⟨same_new n, p, xs, rfl, ot.n n, .inl upd_same, RpAll.move (mv_new n) ds xs r⟩
theorem res_lst {O : Addr → Prop} {H : Hp} {p : Addr} {ds : List D} {xs : List V} (n : H p = none) (r : RpAll O H ds xs) : Res O H (upd H p (.lst xs)) (.ref p) (.ow (.list ds)) :=
  ⟨same_new n, p, rfl, n, xs, upd_same, RpAll.move (mv_add n) ds xs r⟩

/-! ### constants and names -/
def conC (d : D) : DnD := fun g k => k d g
theorem ds_con {d : D} {v : V} (h : PE X e (tC v)) (r : ∀ O H, Rp O H d v) : DS X W A true e (conC d) :=
  ⟨h.imp fun σ H Q ⟨O, g, k, r', F, e, G, q⟩ => q v d O H g F Gr.refl (r O H) e⟩
theorem ds_int {i : Int} {j pos} : DS X W A true (.Constant (.int i) j pos) (conC (.int i)) := ds_con pe_int fun _ _ => rfl
theorem ds_bl {i : Bool} {j pos} : DS X W A true (.Constant (.bool i) j pos) (conC (.bool i)) := ds_con pe_bl fun _ _ => rfl
theorem ds_str {i : Str} {j pos} : DS X W A true (.Constant (.str i) j pos) (conC (.str i)) := ds_con pe_str fun _ _ => rfl
theorem ds_non {j pos} : DS X W A true (.Constant .none j pos) (conC .none) := ds_con pe_non fun _ _ => rfl
theorem ds_glob {i : Int} {x : Str} {t : Tok} {pos : Pos} (hg : Gl X x) (hm : X.mg x = some (.int i t)) (hd : (x == ("__debug__" : Str)) = false := by decide) : DS X W A true (.Name x pos) (conC (.int i)) := ds_con (v := .int i) (pe_glob hg hm ⟨t, rfl⟩ hd) fun _ _ => rfl
/-- a name whose value goes on -/
def varC (i : Nat) : DnD := fun g k => match g[i]? with
  | some (.sh d) => k d g
  | some (.ow d) => k d (g.set i (.sh d))
  | _ => .err
/-- a name that is read -/
def borC (i : Nat) : DnD := fun g k => match g[i]? with
  | some (.sh d) => k d g
  | some (.ow d) => k d g
  | some (.rf d) => k d g
  | _ => .err
theorem ds_var {i : Nat} (h : PE X e (tVar i)) : DS X W A true e (varC i) := ⟨h.imp fun σ H Q ⟨O, g, k, r, F, e, G, q⟩ => by
  unfold varC at e
  cases hs : g[i]? with
  | none => rw [hs] at e; exact absurd e.symm G.ne
  | some s =>
    rw [hs] at e
    cases s with
    | no => exact absurd e.symm G.ne
    | rf d => exact absurd e.symm G.ne
    | sh d =>
      obtain ⟨v, ev, rv⟩ := F.sh i d hs
      exact ⟨v, ev, q v d O H g F Gr.refl rv e⟩
    | ow d =>
      obtain ⟨p, ep, _, _, _⟩ := F.ow i d hs
      obtain ⟨F', rp⟩ := F.freeze hs ep
      exact ⟨_, ep, q _ d _ H _ F' Gr.refl.del rp e⟩⟩
theorem dr_var {i : Nat} (h : PE X e (tVar i)) : DR X W A true e (borC i) := ⟨h.imp fun σ H Q ⟨O, g, k, r, F, e, G, q⟩ => by
  unfold borC at e
  cases hs : g[i]? with
  | none => rw [hs] at e; exact absurd e.symm G.ne
  | some s =>
    rw [hs] at e
    cases s with
    | no => exact absurd e.symm G.ne
    | rf d =>
      obtain ⟨p, _, ep, rp⟩ := F.rf i d hs
      exact ⟨_, ep, q _ d O H g F Gr.refl (.inr ⟨p, rfl, rp⟩) e⟩
    | sh d =>
      obtain ⟨v, ev, rv⟩ := F.sh i d hs
      exact ⟨v, ev, q v d O H g F Gr.refl (.inl rv) e⟩
    | ow d =>
      obtain ⟨p, ep, _, _, rp⟩ := F.ow i d hs
      exact ⟨_, ep, q _ d O H g F Gr.refl (.inr ⟨p, rfl, rp⟩) e⟩⟩

/-! ### two operands -/
/-- a value-level rule: r on what is read as d, e gives the s of op -/
def Ru2 (r : R2) (op : D → D → Option Sl) : Prop := ∀ (O : Addr → Prop) (H : Hp) (x y : V) (d e : D) (s : Sl) (Q : VK), OT O H → RdD O H d x → RdD O H e y → op d e = some s → (∀ v H', Res O H H' v s → Q v H') → r x y H Q
/-- .. whose answer never changes and lies in the same heap -/
def Ru2D (r : R2) (op : D → D → Option D) : Prop := ∀ (O : Addr → Prop) (H : Hp) (x y : V) (d e s : D) (Q : VK), OT O H → RdD O H d x → RdD O H e y → op d e = some s → (∀ v, Rp O H s v → Q v H) → r x y H Q
def kop (o : Option Sl) (g : Gam) (k : KS) : R := match o with
  | some s => k s g
  | none => .err
def kopD (o : Option D) (g : Gam) (k : KD) : R := match o with
  | some s => k s g
  | none => .err
def binF (op : D → D → Option Sl) (fa fb : DnD) : DnS := fun g k => fa g fun x g1 => fb g1 fun y g2 => kop (op x y) g2 k
def binD (op : D → D → Option D) (fa fb : DnD) : DnD := fun g k => fa g fun x g1 => fb g1 fun y g2 => kopD (op x y) g2 k
theorem tOp_F {r : R2} {op : D → D → Option Sl} {fa fb : DnD} (hv : Ru2 r op) (hm : (m || cb) = true) {σ : L2.St} {H : Hp} {Q : VK} (h : tG A W (ca && cb) (pF A) (binF op fa fb) σ H Q) :
    tOp r (tG A W ca (pM m) fa) (tG A W cb (pM m') fb) σ H Q := by
  obtain ⟨O, g, k, r0, F, e0, G, q⟩ := h
  refine ⟨O, g, _, r0, F, e0, G, fun x d O1 H1 g1 F1 gr1 p1 e1 => ?_⟩
  refine ⟨O1, g1, _, r0, F1, e1, G, fun y d2 O2 H2 g2 F2 gr2 p2 e2 => ?_⟩
  have p1' : RdD O2 H2 d x := pM_rd (σ := σ) (g := g2) (pM_keep hm p1 gr2)
  cases ho : op d d2 with
  | none => simp only [ho, kop] at e2; exact absurd e2.symm G.ne
  | some s =>
    simp only [ho, kop] at e2
    refine hv O2 H2 x y d d2 s Q F2.ot p1' (pM_rd p2) ho fun v H' rs => ?_
    obtain ⟨O', F', gr', pf⟩ := rs.pF F2
    exact q v s O' H' g2 F' (by simpa using (gr1.trans gr2).trans gr') pf e2
theorem tOp_D {r : R2} {op : D → D → Option D} {fa fb : DnD} (hv : Ru2D r op) (hm : (m || cb) = true) {σ : L2.St} {H : Hp} {Q : VK} (h : tG A W (ca && cb) pS (binD op fa fb) σ H Q) :
    tOp r (tG A W ca (pM m) fa) (tG A W cb (pM m') fb) σ H Q := by
  obtain ⟨O, g, k, r0, F, e0, G, q⟩ := h
  refine ⟨O, g, _, r0, F, e0, G, fun x d O1 H1 g1 F1 gr1 p1 e1 => ?_⟩
  refine ⟨O1, g1, _, r0, F1, e1, G, fun y d2 O2 H2 g2 F2 gr2 p2 e2 => ?_⟩
  have p1' : RdD O2 H2 d x := pM_rd (σ := σ) (g := g2) (pM_keep hm p1 gr2)
  cases ho : op d d2 with
  | none => simp only [ho, kopD] at e2; exact absurd e2.symm G.ne
  | some s =>
    simp only [ho, kopD] at e2
    exact hv O2 H2 x y d d2 s Q F2.ot p1' (pM_rd p2) ho fun v rs => q v s O2 H2 g2 F2 (gr1.trans gr2) rs e2
theorem df_op {o : Operator} {r : R2} {op : D → D → Option Sl} {fa fb : DnD} {pos : Pos} (ho : OpR X (binaryOp o) r) (hv : Ru2 r op) (ha : DM m X W A ca a fa) (hb : DM m' X W A cb b fb) (hm : (m || cb) = true := by rfl) :
    DF X W A (ca && cb) (.BinOp a o b pos) (binF op fa fb) := ⟨(pe_op ho ha.pe hb.pe).imp fun _ _ _ h => tOp_F hv hm h⟩
theorem ds_op {o : Operator} {r : R2} {op : D → D → Option D} {fa fb : DnD} {pos : Pos} (ho : OpR X (binaryOp o) r) (hv : Ru2D r op) (ha : DM m X W A ca a fa) (hb : DM m' X W A cb b fb) (hm : (m || cb) = true := by rfl) :
    DS X W A (ca && cb) (.BinOp a o b pos) (binD op fa fb) := ⟨(pe_op ho ha.pe hb.pe).imp fun _ _ _ h => tOp_D hv hm h⟩
theorem ds_cmp {o : CmpOp} {r : R2} {op : D → D → Option D} {fa fb : DnD} {pos : Pos} (ho : OpR X (compareOp o) r) (hv : Ru2D r op) (ha : DM m X W A ca a fa) (hb : DM m' X W A cb b fb) (hk : behindInMarks o b = false) (hm : (m || cb) = true := by rfl) :
    DS X W A (ca && cb) (.Compare a [o] [b] pos) (binD op fa fb) := ⟨(pe_cmpR ho ha.pe hb.pe hk).imp fun _ _ _ h => tOp_D hv hm h⟩
/-- a truth value of two data -/
def binB (op : D → D → Option Bool) (fa fb : DnD) : DnB := fun g k => fa g fun x g1 => fb g1 fun y g2 => match op x y with
  | some s => k s g2
  | none => .err
def opBD (op : D → D → Option Bool) : D → D → Option D := fun d e => (op d e).map .bool
/-- a comparison as a test -/
theorem db_cmp {o : CmpOp} {r : R2} {op : D → D → Option Bool} {fa fb : DnD} {pos : Pos} (ho : OpR X (compareOp o) r) (hv : Ru2D r (opBD op)) (ha : DM m X W A ca a fa) (hb : DM m' X W A cb b fb) (hk : behindInMarks o b = false) (hm : (m || cb) = true := by rfl) :
    DB X W A (ca && cb) (.Compare a [o] [b] pos) (binB op fa fb) := ⟨(pt_cmpR ho ha.pe hb.pe hk).imp fun σ H Q h => by
  obtain ⟨O, g, k, r0, F, e0, G, q⟩ := h
  refine ⟨O, g, _, r0, F, e0, G, fun x d O1 H1 g1 F1 gr1 p1 e1 => ?_⟩
  refine ⟨O1, g1, _, r0, F1, e1, G, fun y d2 O2 H2 g2 F2 gr2 p2 e2 => ?_⟩
  have p1' : RdD O2 H2 d x := pM_rd (σ := σ) (g := g2) (pM_keep hm p1 gr2)
  cases hop : op d d2 with
  | none => simp only [hop] at e2; exact absurd e2.symm G.ne
  | some s =>
    simp only [hop] at e2
    refine hv O2 H2 x y d d2 (.bool s) _ F2.ot p1' (pM_rd p2) (by unfold opBD; rw [hop]; rfl) fun v rs => ?_
    exact ⟨s, rs, q s O2 H2 g2 F2 (gr1.trans gr2) e2⟩⟩
/-- one operand -/
def unD (op : D → Option D) (fa : DnD) : DnD := fun g k => fa g fun x g1 => kopD (op x) g1 k
theorem ds_un {o : UnaryOp} {r : V → Hp → VK → Prop} {op : D → Option D} {fa : DnD} {pos : Pos} (ho : UnR X (unaryOp o) r) (hv : ∀ (O : Addr → Prop) (H : Hp) (x : V) (d s : D) (Q : VK), RdD O H d x → op d = some s → (∀ v, Rp O H s v → Q v H) → r x H Q)
    (ha : DM m X W A ca a fa) : DS X W A ca (.UnaryOp o a pos) (unD op fa) := ⟨(pe_un ho ha.pe).imp fun σ H Q h => by
  obtain ⟨O, g, k, r0, F, e0, G, q⟩ := h
  refine ⟨O, g, _, r0, F, e0, G, fun x d O1 H1 g1 F1 gr1 p1 e1 => ?_⟩
  cases hop : op d with
  | none => simp only [hop, kopD] at e1; exact absurd e1.symm G.ne
  | some s =>
    simp only [hop, kopD] at e1
    exact hv O1 H1 x d s Q (pM_rd p1) hop fun v rs => q v s O1 H1 g1 F1 gr1 rs e1⟩
/-- a[b] -/
theorem df_ix {r : R2} {op : D → D → Option Sl} {fa fb : DnD} {pos : Pos} (ho : IxR X r) (hv : Ru2 r op) (ha : DM m X W A ca a fa) (hb : DM m' X W A cb b fb) (hp : PlainIx b) (hm : (m || cb) = true := by rfl) :
    DF X W A (ca && cb) (.Subscript a b pos) (binF op fa fb) := ⟨(pe_ix ho ha.pe hb.pe hp).imp fun _ _ _ h => tOp_F hv hm h⟩
theorem ds_ix {r : R2} {op : D → D → Option D} {fa fb : DnD} {pos : Pos} (ho : IxR X r) (hv : Ru2D r op) (ha : DM m X W A ca a fa) (hb : DM m' X W A cb b fb) (hp : PlainIx b) (hm : (m || cb) = true := by rfl) :
    DS X W A (ca && cb) (.Subscript a b pos) (binD op fa fb) := ⟨(pe_ix ho ha.pe hb.pe hp).imp fun _ _ _ h => tOp_D hv hm h⟩

/-! ### tests -/
/-- a datum's truth -/
def truD : D → Option Bool
  | .none => some false
  | .bool b => some b
  | .int i => some (i != 0)
  | .str x => if x.length ≤ sizeLine then some ((x.length : Int) != 0) else none
  | .list ds => some (!ds.isEmpty)
  | .tuple ds => some (!ds.isEmpty)
  | .dict _ => none
theorem isE {O : Addr → Prop} {H : Hp} {ds : List D} {xs : List V} (h : RpAll O H ds xs) : (!ds.isEmpty) = !xs.isEmpty := by
  have := h.length
  cases ds <;> cases xs <;> simp_all
theorem tru_rd {K : PySem.W.Frag} {O : Addr → Prop} {H : Hp} {d : D} {v : V} {k : Bool} (h : RdD O H d v) (e : truD d = some k) : TruV K v H k := by
  cases d with
  | none => rcases h with h | ⟨p, _, h⟩; · cases h; cases e; exact rfl
            · exact h.elim
  | bool b => rcases h with h | ⟨p, _, h⟩; · cases h; cases e; exact rfl
              · exact h.elim
  | int b => rcases h with h | ⟨p, _, h⟩; · cases h; cases e; exact rfl
             · exact h.elim
  | str x =>
    rcases h with h | ⟨p, _, h⟩
    · cases h
      have e : (if x.length ≤ sizeLine then some ((x.length : Int) != 0) else none) = some k := e
      by_cases hx : x.length ≤ sizeLine
      · rw [if_pos hx] at e; cases e; exact ⟨hx, rfl⟩
      · rw [if_neg hx] at e; cases e
    · exact h.elim
  | list ds =>
    cases e
    rcases h with ⟨a, xs, rfl, n, r, q⟩ | ⟨p, rfl, xs, r, q⟩
    · exact .inl ⟨xs, .inl r, isE q⟩
    · exact .inl ⟨xs, .inl (.inl r), isE q⟩
  | tuple ds =>
    cases e
    rcases h with ⟨a, xs, rfl, n, r, q⟩ | ⟨p, rfl, h⟩
    · exact .inr (.inl ⟨xs, .inl r, isE q⟩)
    · exact h.elim
  | dict _ => cases e
def truB (fa : DnD) : DnB := fun g k => fa g fun x g1 => match truD x with
  | some b => k b g1
  | none => .err
/-- any expression as a test, by its truth -/
theorem db_tru {fa : DnD} (ha : DM m X W A ca a fa) (he : ∀ whole, isTrue a X.env whole = (do let v ← whole; standAt a.pos; holding [v] (truthy v)) := by intro _; rfl) : DB X W A ca a (truB fa) := ⟨(pt_truth ha.pe he).imp fun σ H Q h => by
  obtain ⟨O, g, k, r0, F, e0, G, q⟩ := h
  refine ⟨O, g, _, r0, F, e0, G, fun x d O1 H1 g1 F1 gr1 p1 e1 => ?_⟩
  cases hop : truD d with
  | none => simp only [hop] at e1; exact absurd e1.symm G.ne
  | some s =>
    simp only [hop] at e1
    exact ⟨s, tru_rd (pM_rd p1) hop, q s O1 H1 g1 F1 gr1 e1⟩⟩
def notB (f : DnB) : DnB := fun g k => f g fun b g' => k (!b) g'
def andB (fa fb : DnB) : DnB := fun g k => fa g fun b g1 => if b = true then fb g1 k else k false g1
def orB (fa fb : DnB) : DnB := fun g k => fa g fun b g1 => if b = true then k true g1 else fb g1 k
/-- a chain of and, or as a test (whatever its whole is) -/
structure DW (X : Cx) (W : WX) (A : Act) (c : Bool) (e : Expr) (f : DnB) : Prop where
  pw : PW X e (tGT A W c f)
theorem _root_.L2.PW.imp {t t' : TT} (h : PW X e t) (w : ∀ σ H Q, t' σ H Q → t σ H Q) : PW X e t' := ⟨fun wh pins s σ H Q I q => h.run wh pins s σ H Q I (w σ H Q q)⟩
theorem DW.bb {f : DnB} (h : DW X W A c e f) : DB X W A c e f := ⟨h.pw.pt⟩
theorem dw_and1 {fa : DnB} {pos : Pos} (ha : DB X W A ca a fa) : DW X W A ca (.BoolOp .And [a] pos) fa := ⟨pw_and1 ha.pt⟩
theorem dw_or1 {fa : DnB} {pos : Pos} (ha : DB X W A ca a fa) : DW X W A ca (.BoolOp .Or [a] pos) fa := ⟨pw_or1 ha.pt⟩
theorem tGT_and {fa fb : DnB} {σ : L2.St} {H : Hp} {Q : Bool → Hp → Prop} (h : tGT A W (ca && cb) (andB fa fb) σ H Q) : tAnd (tGT A W ca fa) (tGT A W cb fb) σ H Q := by
  obtain ⟨O, g, k, r0, F, e0, G, q⟩ := h
  refine ⟨O, g, _, r0, F, e0, G, fun d O1 H1 g1 F1 gr1 e1 => ?_⟩
  cases d with
  | true => exact iteT ⟨O1, g1, k, r0, F1, by simpa using e1, G, fun b O2 H2 g2 F2 gr2 e2 => q b O2 H2 g2 F2 (gr1.trans gr2) e2⟩
  | false => exact iteF (q false O1 H1 g1 F1 ⟨gr1.1, fun h => gr1.2 (Bool.and_eq_true_iff.mp h).1⟩ (by simpa using e1))
theorem tGT_or {fa fb : DnB} {σ : L2.St} {H : Hp} {Q : Bool → Hp → Prop} (h : tGT A W (ca && cb) (orB fa fb) σ H Q) : tOr (tGT A W ca fa) (tGT A W cb fb) σ H Q := by
  obtain ⟨O, g, k, r0, F, e0, G, q⟩ := h
  refine ⟨O, g, _, r0, F, e0, G, fun d O1 H1 g1 F1 gr1 e1 => ?_⟩
  cases d with
  | false => exact iteF ⟨O1, g1, k, r0, F1, by simpa using e1, G, fun b O2 H2 g2 F2 gr2 e2 => q b O2 H2 g2 F2 (gr1.trans gr2) e2⟩
  | true => exact iteT (q true O1 H1 g1 F1 ⟨gr1.1, fun h => gr1.2 (Bool.and_eq_true_iff.mp h).1⟩ (by simpa using e1))
theorem dw_and {rest : List Expr} {fa fb : DnB} {pos : Pos} (ha : DB X W A ca a fa) (hb : DW X W A cb (.BoolOp .And (b :: rest) pos) fb) : DW X W A (ca && cb) (.BoolOp .And (a :: b :: rest) pos) (andB fa fb) := ⟨(pw_and ha.pt hb.pw).imp fun _ _ _ h => tGT_and h⟩
theorem dw_or {rest : List Expr} {fa fb : DnB} {pos : Pos} (ha : DB X W A ca a fa) (hb : DW X W A cb (.BoolOp .Or (b :: rest) pos) fb) : DW X W A (ca && cb) (.BoolOp .Or (a :: b :: rest) pos) (orB fa fb) := ⟨(pw_or ha.pt hb.pw).imp fun _ _ _ h => tGT_or h⟩
theorem db_not {fa : DnB} {pos : Pos} (ha : DB X W A ca a fa) : DB X W A ca (.UnaryOp .Not a pos) (notB fa) := ⟨(pt_not ha.pt).imp fun σ H Q h => by
  obtain ⟨O, g, k, r0, F, e0, G, q⟩ := h
  exact ⟨O, g, _, r0, F, e0, G, fun d O1 H1 g1 F1 gr1 e1 => q (!d) O1 H1 g1 F1 gr1 e1⟩⟩
/-- not a as a value, by truth -/
def notV (fa : DnD) : DnD := fun g k => fa g fun x g1 => match truD x with
  | some b => k (.bool (!b)) g1
  | none => .err
theorem ds_not {fa : DnD} {pos : Pos} (ha : DM m X W A ca a fa) : DS X W A ca (.UnaryOp .Not a pos) (notV fa) := ⟨(pe_notT ha.pe).imp fun σ H Q h => by
  obtain ⟨O, g, k, r0, F, e0, G, q⟩ := h
  refine ⟨O, g, _, r0, F, e0, G, fun x d O1 H1 g1 F1 gr1 p1 e1 => ?_⟩
  cases hop : truD d with
  | none => simp only [hop] at e1; exact absurd e1.symm G.ne
  | some s =>
    simp only [hop] at e1
    exact ⟨s, tru_rd (pM_rd p1) hop, q _ (.bool (!s)) O1 H1 g1 F1 gr1 rfl e1⟩⟩
/-- and, or as values (the last one, or the first that decides) -/
def andV (fa fb : DnD) : DnD := fun g k => fa g fun x g1 => match truD x with
  | some true => fb g1 k
  | some false => k x g1
  | none => .err
def orV (fa fb : DnD) : DnD := fun g k => fa g fun x g1 => match truD x with
  | some true => k x g1
  | some false => fb g1 k
  | none => .err
theorem ds_one {o : BoolOp} {fa : DnD} {pos : Pos} (ha : DS X W A ca a fa) : DS X W A ca (.BoolOp o [a] pos) fa := ⟨pe_one ha.pe⟩
theorem ds_and {rest : List Expr} {fa fb : DnD} {pos : Pos} (ha : DS X W A ca a fa) (hb : DS X W A cb (.BoolOp .And (b :: rest) pos) fb) : DS X W A (ca && cb) (.BoolOp .And (a :: b :: rest) pos) (andV fa fb) := ⟨(pe_andT ha.pe hb.pe).imp fun σ H Q h => by
  obtain ⟨O, g, k, r0, F, e0, G, q⟩ := h
  refine ⟨O, g, _, r0, F, e0, G, fun x d O1 H1 g1 F1 gr1 p1 e1 => ?_⟩
  cases hop : truD d with
  | none => simp only [hop] at e1; exact absurd e1.symm G.ne
  | some s =>
    simp only [hop] at e1
    refine ⟨s, tru_rd (.inl p1) hop, ?_⟩
    cases s with
    | true => exact iteT ⟨O1, g1, k, r0, F1, e1, G, fun v b O2 H2 g2 F2 gr2 p2 e2 => q v b O2 H2 g2 F2 (gr1.trans gr2) p2 e2⟩
    | false => exact iteF (q x d O1 H1 g1 F1 ⟨gr1.1, fun h => gr1.2 (Bool.and_eq_true_iff.mp h).1⟩ p1 e1)⟩
theorem ds_or {rest : List Expr} {fa fb : DnD} {pos : Pos} (ha : DS X W A ca a fa) (hb : DS X W A cb (.BoolOp .Or (b :: rest) pos) fb) : DS X W A (ca && cb) (.BoolOp .Or (a :: b :: rest) pos) (orV fa fb) := ⟨(pe_orT ha.pe hb.pe).imp fun σ H Q h => by
  obtain ⟨O, g, k, r0, F, e0, G, q⟩ := h
  refine ⟨O, g, _, r0, F, e0, G, fun x d O1 H1 g1 F1 gr1 p1 e1 => ?_⟩
  cases hop : truD d with
  | none => simp only [hop] at e1; exact absurd e1.symm G.ne
  | some s =>
    simp only [hop] at e1
    refine ⟨s, tru_rd (.inl p1) hop, ?_⟩
    cases s with
    | false => exact iteF ⟨O1, g1, k, r0, F1, e1, G, fun v b O2 H2 g2 F2 gr2 p2 e2 => q v b O2 H2 g2 F2 (gr1.trans gr2) p2 e2⟩
    | true => exact iteT (q x d O1 H1 g1 F1 ⟨gr1.1, fun h => gr1.2 (Bool.and_eq_true_iff.mp h).1⟩ p1 e1)⟩
/-- a if t else b -/
def ifC {α : Type} (ft : DnB) (fa fb : Gam → (α → Gam → R) → R) : Gam → (α → Gam → R) → R := fun g k => ft g fun b g1 => if b = true then fa g1 k else fb g1 k
theorem tG_if {α : Type} {P : Pst α} {c' : Bool} {ft : DnB} {fa fb : Gam → (α → Gam → R) → R} {σ : L2.St} {H : Hp} {Q : VK} (h : tG A W (c && (ca && cb)) P (ifC ft fa fb) σ H Q) : tIf (tGT A W c ft) (tG A W ca P fa) (tG A W cb P fb) σ H Q := by
  obtain ⟨O, g, k, r0, F, e0, G, q⟩ := h
  refine ⟨O, g, _, r0, F, e0, G, fun d O1 H1 g1 F1 gr1 e1 => ?_⟩
  cases d with
  | true => exact iteT ⟨O1, g1, k, r0, F1, by simpa using e1, G, fun v b O2 H2 g2 F2 gr2 p2 e2 => q v b O2 H2 g2 F2 ⟨fun a o e n => (gr1.trans gr2).1 a o e n, fun h => by
    have h := Bool.and_eq_true_iff.mp h
    exact (gr1.2 h.1).trans (gr2.2 (Bool.and_eq_true_iff.mp h.2).1)⟩ p2 e2⟩
  | false => exact iteF ⟨O1, g1, k, r0, F1, by simpa using e1, G, fun v b O2 H2 g2 F2 gr2 p2 e2 => q v b O2 H2 g2 F2 ⟨fun a o e n => (gr1.trans gr2).1 a o e n, fun h => by
    have h := Bool.and_eq_true_iff.mp h
    exact (gr1.2 h.1).trans (gr2.2 (Bool.and_eq_true_iff.mp h.2).2)⟩ p2 e2⟩
theorem ds_if {t : Expr} {ft : DnB} {fa fb : DnD} {pos : Pos} (ht : DB X W A c t ft) (ha : DS X W A ca a fa) (hb : DS X W A cb b fb) : DS X W A (c && (ca && cb)) (.IfExp t a b pos) (ifC ft fa fb) := ⟨(pe_ifExp ht.pt ha.pe hb.pe).imp fun _ _ _ h => tG_if (c' := c) h⟩
theorem df_if {t : Expr} {ft : DnB} {fa fb : DnS} {pos : Pos} (ht : DB X W A c t ft) (ha : DF X W A ca a fa) (hb : DF X W A cb b fb) : DF X W A (c && (ca && cb)) (.IfExp t a b pos) (ifC ft fa fb) := ⟨(pe_ifExp ht.pt ha.pe hb.pe).imp fun _ _ _ h => tG_if (c' := c) h⟩

/-! ### lists of arguments; displays -/
def nilC : DnL := fun g k => k [] g
def consC (fa : DnD) (fs : DnL) : DnL := fun g k => fa g fun x g1 => fs g1 fun xs g2 => k (x :: xs) g2
theorem RdL.of : ∀ {O : Addr → Prop} {H : Hp} {ds : List D} {vs : List V}, RpAll O H ds vs → RdL O H ds vs
  | _, _, [], _, h => h
  | _, _, _ :: _, _, ⟨y, ys, e, q, r⟩ => ⟨y, ys, e, .inl q, RdL.of r⟩
theorem RdL.gr : ∀ {O O' : Addr → Prop} {H H' : Hp} {ds : List D} {vs : List V}, Gr true O H O' H' → RdL O H ds vs → RdL O' H' ds vs
  | _, _, _, _, [], _, _, h => h
  | _, _, _, _, _ :: _, _, gr, ⟨y, ys, e, q, r⟩ => ⟨y, ys, e, gr.rd q, RdL.gr gr r⟩
theorem pLM_rd {O : Addr → Prop} {H : Hp} {ds : List D} {vs : List V} (h : pLM m O H ds vs) : RdL O H ds vs := by
  cases m with
  | true => exact RdL.of h
  | false => exact h
theorem dl_nil : DL m X W A true [] nilC := ⟨pa_nil.imp fun σ H Q ⟨O, g, k, r, F, e, G, q⟩ => q [] [] O H g F Gr.refl (by cases m <;> rfl) rfl e⟩
/-- the first value holds through the others: it never changes, or these change nothing -/
theorem dl_cons {es : List Expr} {fa : DnD} {fs : DnL} (ha : DM m' X W A ca a fa) (hs : DL m X W A cb es fs) (hm : ((m && m') || (!m && (m' || cb))) = true := by rfl)
    (hst : starEach (a :: es) X.env = (false, eval a X.env) :: starEach es X.env := by rfl) : DL m X W A (ca && cb) (a :: es) (consC fa fs) := ⟨(pa_cons ha.pe hs.pa hst).imp fun σ H Q h => by
  obtain ⟨O, g, k, r0, F, e0, G, q⟩ := h
  refine ⟨O, g, _, r0, F, e0, G, fun x d O1 H1 g1 F1 gr1 p1 e1 => ?_⟩
  refine ⟨O1, g1, _, r0, F1, e1, G, fun xs ds O2 H2 g2 F2 gr2 p2 l2 e2 => ?_⟩
  refine q (x :: xs) (d :: ds) O2 H2 g2 F2 (gr1.trans gr2) ?_ (by rw [List.length_cons, List.length_cons, l2]) e2
  cases m with
  | true =>
    have : m' = true := by simpa using hm
    subst this
    exact ⟨x, xs, rfl, gr2.rp p1, p2⟩
  | false => exact ⟨x, xs, rfl, pM_rd (σ := σ) (g := g2) (pM_keep (by simpa using hm) p1 gr2), p2⟩⟩
def tupC (f : DnL) : DnD := fun g k => f g fun ds g' => k (.tuple ds) g'
def lstC (f : DnL) : DnS := fun g k => f g fun ds g' => k (.ow (.list ds)) g'
theorem ds_tup {es : List Expr} {f : DnL} {x1} {pos : Pos} (h : DL true X W A c es f) (hn : es.length ≤ 1000 := by decide) : DS X W A c (.Tuple es x1 pos) (tupC f) := ⟨(pe_tup h.pa).imp fun σ H Q hh => by
  obtain ⟨O, g, k, r0, F, e0, G, q⟩ := hh
  refine ⟨O, g, _, r0, F, e0, G, fun xs ds O1 H1 g1 F1 gr1 p1 l1 e1 => ?_⟩
  have p1 : RpAll O1 H1 ds xs := p1
  refine ⟨by rw [p1.length, l1]; exact Nat.le_of_lt (small1000 hn), fun p n => ?_⟩
  obtain ⟨O', F', gr', pf⟩ := (res_tup F1.ot n p1).pF F1
  exact q _ _ O' _ g1 F' (by simpa using gr1.trans gr') pf e1⟩
theorem df_lst {es : List Expr} {f : DnL} {pos : Pos} (h : DL true X W A c es f) (hn : es.length ≤ 1000 := by decide) : DF X W A c (.List es pos) (lstC f) := ⟨(pe_lst h.pa).imp fun σ H Q hh => by
  obtain ⟨O, g, k, r0, F, e0, G, q⟩ := hh
  refine ⟨O, g, _, r0, F, e0, G, fun xs ds O1 H1 g1 F1 gr1 p1 l1 e1 => ?_⟩
  have p1 : RpAll O1 H1 ds xs := p1
  refine ⟨by rw [p1.length, l1]; exact Nat.le_of_lt (small1000 hn), fun p n => ?_⟩
  obtain ⟨O', F', gr', pf⟩ := (res_lst n p1).pF F1
  exact q _ _ O' _ g1 F' (by simpa using gr1.trans gr') pf e1⟩
end
set_option Elab.async false
set_option linter.all false
set_option maxRecDepth 100000
open PySem L2

section
variable {O : Addr → Prop} {H : Hp} {x : V} {K : PySem.W.Frag}
theorem rd_int {i : Int} (h : RdD O H (.int i) x) : x = .int i := h.elim id fun ⟨_, _, h⟩ => h.elim
theorem rd_str {i : Str} (h : RdD O H (.str i) x) : x = .str i := h.elim id fun ⟨_, _, h⟩ => h.elim
theorem rd_bl {i : Bool} (h : RdD O H (.bool i) x) : x = .bl i := h.elim id fun ⟨_, _, h⟩ => h.elim
theorem rd_non (h : RdD O H .none x) : x = .non := h.elim id fun ⟨_, _, h⟩ => h.elim
theorem rd_tup {ds : List D} (h : RdD O H (.tuple ds) x) : ∃ a xs, x = .ref a ∧ SqT K H a xs ∧ RpAll O H ds xs ∧ ¬ O a ∧ Rd H a (.tup xs) := by
  rcases h with ⟨a, xs, e, n, r, q⟩ | ⟨_, _, h⟩
  · exact ⟨a, xs, e, .inl r, q, n, r⟩
  · exact h.elim
theorem rd_lst {ds : List D} (h : RdD O H (.list ds) x) : ∃ a xs, x = .ref a ∧ SqL K H a xs ∧ RpAll O H ds xs ∧ Rd H a (.lst xs) := by
  rcases h with ⟨a, xs, e, n, r, q⟩ | ⟨p, e, xs, r, q⟩
  · exact ⟨a, xs, e, .inl r, q, r⟩
  · exact ⟨p, xs, e, .inl (.inl r), q, .inl r⟩
mutual
theorem Rp.dp : ∀ (d : D) (v : V), Rp O H d v → d.hasDict = false → Dp K H v d
  | .none, _, h, _ => by cases (show _ = _ from h); exact .non
  | .bool _, _, h, _ => by cases (show _ = _ from h); exact .bl _
  | .int _, _, h, _ => by cases (show _ = _ from h); exact .int _
  | .str _, _, h, _ => by cases (show _ = _ from h); exact .str _
  | .list ds, _, ⟨a, xs, e, n, r, q⟩, hd => by subst e; exact .lst (.inl r) (RpAll.dp ds xs q (by simpa [PyData.hasDict] using hd))
  | .tuple ds, _, ⟨a, xs, e, n, r, q⟩, hd => by subst e; exact .tup (.inl r) (RpAll.dp ds xs q (by simpa [PyData.hasDict] using hd))
  | .dict _, _, _, hd => by simp [PyData.hasDict] at hd
theorem RpAll.dp : ∀ (ds : List D) (xs : List V), RpAll O H ds xs → PyData.hasDictAll ds = false → DpAll K H xs ds
  | [], _, h, _ => by cases (show _ = _ from h); exact .nil
  | d :: ds, _, ⟨y, ys, e, q, r⟩, hd => by
    simp only [PyData.hasDictAll, Bool.or_eq_false_iff] at hd
    subst e; exact .cons (Rp.dp d y q hd.1) (RpAll.dp ds ys r hd.2)
end
theorem RdD.dp {d : D} (h : RdD O H d x) (hd : d.hasDict = false) : Dp K H x d := by
  rcases h with h | ⟨p, e, h⟩
  · exact Rp.dp d x h hd
  · cases d with
    | list ds =>
      obtain ⟨xs, r, q⟩ := h
      subst e; exact .lst (.inl (.inl r)) (RpAll.dp ds xs q (by simpa [PyData.hasDict] using hd))
    | dict kvs => simp [PyData.hasDict] at hd
    | _ => exact h.elim
end

/-! ### + -/
def addS : D → D → Option Sl
  | .int i, .int j => some (.sh (.int (i + j)))
  | .str x, .str y => if x.length + y.length ≤ sizeLine then some (.sh (.str (x ++ y))) else none
  | .tuple a, .tuple b => if a.length + b.length ≤ sizeLine then some (.sh (.tuple (a ++ b))) else none
  | .list a, .list b => if a.length + b.length ≤ sizeLine then some (.ow (.list (a ++ b))) else none
  | _, _ => none
/-- two lists, read -/
def rCatR : R2 := fun x y H Q => ∃ l b xs zs, x = .ref l ∧ y = .ref b ∧ Rd H l (.lst xs) ∧ Rd H b (.lst zs) ∧ xs.length + zs.length ≤ sizeLine ∧ ∀ p, H p = none → Q (.ref p) (upd H p (.lst (xs ++ zs)))
section
variable {X : Cx} {K : PySem.W.Frag}
theorem op_catR : OpR X (binaryOp .Add) rCatR := by
  intro pins s σ H x y v u Q I rx ry h
  obtain ⟨l, b, xs, zs, rfl, rfl, hl, hb, hz, q⟩ := h
  cases rx
  cases ry
  obtain ⟨z1, its, n1, r1, e1⟩ : ObjOk X.prog X.w H s.heap l (.lst xs) := hl.ok I.hok
  obtain ⟨z2, its2, n2, r2, e2⟩ : ObjOk X.prog X.w H s.heap b (.lst zs) := hb.ok I.hok
  have l1 := r1.length
  have l2 := r2.length
  refine PySem.P.add_list e1 e2 ?_ (by rw [List.size_toArray, List.size_toArray]; omega)
  have ea : its.toArray ++ its2.toArray = (its ++ its2).toArray := by simp
  rw [ea]
  exact ⟨.ref _, _, I.lnew (t' := s.toks) (r1.append r2) (by rw [List.length_append]; omega), rfl, q _ I.fresh⟩
theorem op_addS : OpR X (binaryOp .Add) (fun x y H Q => (rI0 (fun i j => .int (i + j)) x y H Q ∨ (∃ i j, x = .str i ∧ y = .str j ∧ i.length + j.length ≤ sizeLine ∧ Q (.str (i ++ j)) H)) ∨ (rCatA X.K x y H Q ∨ rCatR x y H Q)) :=
  (op_add.or op_add_str).or (op_catA.or op_catR)
theorem ru_addS : Ru2 (fun x y H Q => (rI0 (fun i j => .int (i + j)) x y H Q ∨ (∃ i j, x = .str i ∧ y = .str j ∧ i.length + j.length ≤ sizeLine ∧ Q (.str (i ++ j)) H)) ∨ (rCatA X.K x y H Q ∨ rCatR x y H Q)) addS := by
  intro O H x y d e s Q ot rx ry ho hQ
  unfold addS at ho
  split at ho
  · cases ho
    exact .inl (.inl ⟨_, _, rd_int rx, rd_int ry, hQ _ _ (res_sh rfl)⟩)
  · split at ho
    · rename_i hz
      cases ho
      exact .inl (.inr ⟨_, _, rd_str rx, rd_str ry, hz, hQ _ _ (res_sh rfl)⟩)
    · cases ho
  · split at ho
    · rename_i hz
      cases ho
      obtain ⟨a, xs, ea, sa, qa, na, ra⟩ := rd_tup rx
      obtain ⟨b, ys, eb, sb, qb, nb, rb⟩ := rd_tup ry
      refine .inr (.inl ⟨a, b, xs, ys, ea, eb, sa, sb, by rw [qa.length, qb.length]; exact hz, fun h => ?_, fun _ h => ?_, fun _ _ p n => ?_⟩)
      · subst h
        have h0 := qa.length
        rename_i ds es
        cases ds with
        | nil => exact hQ _ _ (res_sh ⟨b, ys, rfl, nb, rb, qb⟩)
        | cons _ _ => simp at h0
      · subst h
        have h0 := qb.length
        rename_i ds es _
        cases es with
        | nil => exact hQ _ _ (res_sh (by rw [List.append_nil]; exact ⟨a, xs, rfl, na, ra, qa⟩))
        | cons _ _ => simp at h0
      · exact hQ _ _ (res_tup ot n (qa.append qb))
    · cases ho
  · split at ho
    · rename_i hz
      cases ho
      obtain ⟨a, xs, ea, sa, qa, ra⟩ := rd_lst (K := X.K) rx
      obtain ⟨b, ys, eb, sb, qb, rb⟩ := rd_lst (K := X.K) ry
      exact .inr (.inr ⟨a, b, xs, ys, ea, eb, ra, rb, by rw [qa.length, qb.length]; exact hz, fun p n => hQ _ _ (res_lst n (qa.append qb))⟩)
    · cases ho
  · cases ho

/-! ### other arithmetic: of whole numbers -/
def iiD (c : Int → Int → Bool) (f : Int → Int → Int) : D → D → Option D
  | .int i, .int j => if c i j = true then some (.int (f i j)) else none
  | _, _ => none
theorem ru_ii {c : Int → Int → Bool} {C : Int → Int → Prop} {f : Int → Int → Int} (h : ∀ i j, c i j = true → C i j) : Ru2D (rI C fun i j => .int (f i j)) (iiD c f) := by
  intro O H x y d e s Q ot rx ry ho hQ
  unfold iiD at ho
  split at ho
  · split at ho
    · rename_i hc
      cases ho
      exact ⟨_, _, rd_int rx, rd_int ry, h _ _ hc, hQ _ rfl⟩
    · cases ho
  · cases ho
theorem ru_ii0 {f : Int → Int → Int} : Ru2D (rI0 fun i j => .int (f i j)) (iiD (fun _ _ => true) f) := by
  intro O H x y d e s Q ot rx ry ho hQ
  unfold iiD at ho
  split at ho
  · rw [if_pos rfl] at ho
    cases ho
    exact ⟨_, _, rd_int rx, rd_int ry, hQ _ rfl⟩
  · cases ho
abbrev subD := iiD (fun _ _ => true) fun i j => i - j
def cMul (i j : Int) : Bool := decide (-(2 ^ 64) < i ∧ i < 2 ^ 64) || decide (-(2 ^ 64) < j ∧ j < 2 ^ 64)
abbrev mulD := iiD cMul fun i j => i * j
abbrev fdvD := iiD (fun _ j => decide (0 < j ∧ j < 1073741824)) fun i j => i / j
abbrev modD := iiD (fun _ j => decide (0 < j)) fun i j => i % j
abbrev powD := iiD (fun i j => decide (0 ≤ j ∧ j ≤ 1000 ∧ i.natAbs < 2 ^ 64)) fun i j => i ^ j.toNat
theorem ru_sub : Ru2D (rI0 fun i j => .int (i - j)) subD := ru_ii0
theorem ru_mul : Ru2D (rI CMul fun i j => .int (i * j)) mulD := ru_ii fun i j h => by
  unfold cMul at h
  rcases Bool.or_eq_true_iff.mp h with h | h
  · exact .inl (of_decide_eq_true h)
  · exact .inr (of_decide_eq_true h)
theorem ru_fdv : Ru2D (rI CDiv fun i j => .int (i / j)) fdvD := ru_ii fun i j h => of_decide_eq_true (p := 0 < j ∧ j < 1073741824) h
theorem ru_mod : Ru2D (rI (fun _ j => 0 < j) fun i j => .int (i % j)) modD := ru_ii fun i j h => of_decide_eq_true h
theorem ru_pow : Ru2D (rI CPow fun i j => .int (i ^ j.toNat)) powD := ru_ii fun i j h => by
  have h := of_decide_eq_true h
  exact ⟨h.1, by omega, h.2.2⟩
def negD : D → Option D
  | .int i => some (.int (-i))
  | _ => none
theorem ru_neg : ∀ (O : Addr → Prop) (H : Hp) (x : V) (d s : D) (Q : VK), RdD O H d x → negD d = some s → (∀ v, Rp O H s v → Q v H) → rU (fun i => .int (-i)) x H Q := by
  intro O H x d s Q rx ho hQ
  unfold negD at ho
  split at ho
  · cases ho; exact ⟨_, rd_int rx, hQ _ rfl⟩
  · cases ho

/-! ### order of whole numbers -/
def iiB (f : Int → Int → Bool) : D → D → Option Bool
  | .int i, .int j => some (f i j)
  | _, _ => none
theorem ru_iiB {f : Int → Int → Bool} : Ru2D (rI0 fun i j => .bl (f i j)) (opBD (iiB f)) := by
  intro O H x y d e s Q ot rx ry ho hQ
  unfold opBD iiB at ho
  split at ho
  · cases ho
    exact ⟨_, _, rd_int rx, rd_int ry, hQ _ rfl⟩
  · cases ho
abbrev ltB := iiB fun i j => decide (i < j)
abbrev leB := iiB fun i j => decide (i ≤ j)
abbrev gtB := iiB fun i j => decide (j < i)
abbrev geB := iiB fun i j => decide (j ≤ i)

/-! ### == and != of data; in, not in; is -/
/-- data that may be compared -/
def cmpOk (d : D) : Bool := SeqAt.shaped d
theorem cmpOk_dict {d : D} (h : cmpOk d = true) : d.hasDict = false := PyData.hasDict_of_canLay d (SeqAt.canLay_of_shaped h)
def eqB (d e : D) : Option Bool := if (cmpOk d && cmpOk e) = true then some (PyData.eqv d e) else none
def neB (d e : D) : Option Bool := if (cmpOk d && cmpOk e) = true then some (!PyData.eqv d e) else none
theorem ru_eq : Ru2D (rEqD K) (opBD eqB) := by
  intro O H x y d e s Q ot rx ry ho hQ
  unfold opBD eqB at ho
  split at ho
  · rename_i hc
    obtain ⟨h1, h2⟩ := Bool.and_eq_true_iff.mp hc
    cases ho
    exact ⟨d, e, rx.dp (cmpOk_dict h1), ry.dp (cmpOk_dict h2), h1, h2, hQ _ rfl⟩
  · cases ho
theorem ru_ne : Ru2D (rNeD K) (opBD neB) := by
  intro O H x y d e s Q ot rx ry ho hQ
  unfold opBD neB at ho
  split at ho
  · rename_i hc
    obtain ⟨h1, h2⟩ := Bool.and_eq_true_iff.mp hc
    cases ho
    exact ⟨d, e, rx.dp (cmpOk_dict h1), ry.dp (cmpOk_dict h2), h1, h2, hQ _ rfl⟩
  · cases ho
/-- x is None, x is not None: the right one written -/
def isNB (d : D) (_ : D) : Option Bool := match d with
  | .none => some true
  | _ => some false
def noNB (d : D) (_ : D) : Option Bool := match d with
  | .none => some false
  | _ => some true
def nonB : D → Bool
  | .none => true
  | _ => false
theorem rd_isN {O : Addr → Prop} {H : Hp} {x : V} {d : D} (h : RdD O H d x) : decide (x = .non) = nonB d := by
  cases d with
  | none => rw [rd_non h]; rfl
  | int i => rw [rd_int h]; rfl
  | str i => rw [rd_str h]; rfl
  | bool i => rw [rd_bl h]; rfl
  | list i => rcases h with ⟨a, xs, e, _⟩ | ⟨p, e, _⟩ <;> (rw [e]; rfl)
  | tuple i => rcases h with ⟨a, xs, e, _⟩ | ⟨p, e, _⟩ <;> (rw [e]; rfl)
  | dict i => rcases h with ⟨a, xs, e, _⟩ | ⟨p, e, _⟩ <;> (rw [e]; rfl)
theorem ru_isN : Ru2D (fun x y H Q => y = .non ∧ Q (.bl (decide (x = .non))) H) (opBD fun d e => match e with | .none => isNB d e | _ => none) := by
  intro O H x y d e s Q ot rx ry ho hQ
  unfold opBD at ho
  cases e with
  | none =>
    refine ⟨rd_non ry, hQ _ ?_⟩
    rw [rd_isN rx]
    cases d <;> cases ho <;> rfl
  | _ => cases ho
theorem ru_noN : Ru2D (fun x y H Q => y = .non ∧ Q (.bl (!decide (x = .non))) H) (opBD fun d e => match e with | .none => noNB d e | _ => none) := by
  intro O H x y d e s Q ot rx ry ho hQ
  unfold opBD at ho
  cases e with
  | none =>
    refine ⟨rd_non ry, hQ _ ?_⟩
    rw [rd_isN rx]
    cases d <;> cases ho <;> rfl
  | _ => cases ho
end
set_option Elab.async false
set_option linter.all false
set_option maxRecDepth 100000
open PySem L2

/-! ### statements -/
/-- what is wanted of the answer of a block that begins at O, H -/
structure Eo (A : Act) (W : WX) (O : Addr → Prop) (H : Hp) (r : R) (D : Ends) : Prop where
  go : Go A W r
  rt : ∀ (s : Sl) (g : Gam), r = .ret s g → ∀ (v : V) (σ : L2.St) (O' : Addr → Prop) (H' : Hp), FI A O' σ H' g → pF A O' H' σ g v s → D.rt v H'
  bk : ∀ (g : Gam), r = .brk g → ∀ (σ : L2.St) (O' : Addr → Prop) (H' : Hp), FI A O' σ H' g → Gr false O H O' H' → D.bk σ H'
  ct : ∀ (g : Gam), r = .ct g → ∀ (σ : L2.St) (O' : Addr → Prop) (H' : Hp), FI A O' σ H' g → Gr false O H O' H' → D.ct σ H'
def tST (A : Act) (W : WX) (f : DnT) : TS := fun D σ H =>
  ∃ (O : Addr → Prop) (g : Gam) (k : Gam → R) (r : R), FI A O σ H g ∧ f g k = r ∧ Eo A W O H r D ∧
    ∀ (σ' : L2.St) (O' : Addr → Prop) (H' : Hp) (g' : Gam), FI A O' σ' H' g' → Gr false O H O' H' → k g' = r → D.nx σ' H'
structure DT (X : Cx) (W : WX) (A : Act) (st : Stmt) (f : DnT) : Prop where
  ps : PS X st (tST A W f)
structure DTs (X : Cx) (W : WX) (A : Act) (st : List Stmt) (f : DnT) : Prop where
  ps : PSs X st (tST A W f)

section
variable {X : Cx} {W : WX} {A : Act} {c ca cb m m' : Bool} {e a b : Expr} {O O1 : Addr → Prop} {H H1 : Hp} {r : R} {E : Ends}
theorem _root_.L2.PS.imp {st : Stmt} {t t' : TS} (h : PS X st t) (w : ∀ D σ H, t' D σ H → t D σ H) : PS X st t' := ⟨fun pins s σ H D I q => h.run pins s σ H D I (w D σ H q)⟩
theorem _root_.L2.PSs.imp {st : List Stmt} {t t' : TS} (h : PSs X st t) (w : ∀ D σ H, t' D σ H → t D σ H) : PSs X st t' := ⟨fun pins s σ H D I q => h.run pins s σ H D I (w D σ H q)⟩
theorem Eo.on (e : Eo A W O H r E) (gr : Gr c O H O1 H1) : Eo A W O1 H1 r E :=
  ⟨e.go, e.rt, fun g q σ O' H' F gr' => e.bk g q σ O' H' F (gr.weak.trans gr'), fun g q σ O' H' F gr' => e.ct g q σ O' H' F (gr.weak.trans gr')⟩
def seqT (f1 f2 : DnT) : DnT := fun g k => f1 g fun g' => f2 g' k
theorem dts_cons {st : Stmt} {rest : List Stmt} {f1 f2 : DnT} (h1 : DT X W A st f1) (h2 : DTs X W A rest f2) : DTs X W A (st :: rest) (seqT f1 f2) := ⟨(pss_cons h1.ps h2.ps).imp fun D σ H ⟨O, g, k, r, F, e, Eo', q⟩ => by
  refine ⟨O, g, _, r, F, e, ⟨Eo'.go, Eo'.rt, Eo'.bk, Eo'.ct⟩, fun σ1 O1 H1 g1 F1 gr1 e1 => ?_⟩
  exact ⟨O1, g1, k, r, F1, e1, Eo'.on gr1, fun σ2 O2 H2 g2 F2 gr2 e2 => q σ2 O2 H2 g2 F2 (gr1.trans gr2) e2⟩⟩
theorem dts_one {st : Stmt} {f1 : DnT} (h1 : DT X W A st f1) : DTs X W A [st] f1 := ⟨pss_one h1.ps⟩
def skipT : DnT := fun g k => k g
theorem dts_nil : DTs X W A [] skipT := ⟨pss_nil.imp fun D σ H ⟨O, g, k, r, F, e, Eo', q⟩ => q σ O H g F Gr.refl e⟩
theorem dt_pass {pos : Pos} : DT X W A (.Pass pos) skipT := ⟨ps_pass.imp fun D σ H ⟨O, g, k, r, F, e, Eo', q⟩ => q σ O H g F Gr.refl e⟩
def brkT : DnT := fun g _ => .brk g
def contT : DnT := fun g _ => .ct g
theorem dt_brk {pos : Pos} : DT X W A (.Break pos) brkT := ⟨ps_break.imp fun D σ H ⟨O, g, k, r, F, e, Eo', q⟩ => Eo'.bk g e.symm σ O H F Gr.refl⟩
theorem dt_cont {pos : Pos} : DT X W A (.Continue pos) contT := ⟨ps_continue.imp fun D σ H ⟨O, g, k, r, F, e, Eo', q⟩ => Eo'.ct g e.symm σ O H F Gr.refl⟩
/-- return e -/
def retT (f : DnS) : DnT := fun g _ => f g fun s g' => .ret s g'
theorem dt_ret {f : DnS} {pos : Pos} (h : DF X W A c e f) : DT X W A (.Return (some e) pos) (retT f) := ⟨(ps_ret h.pe).imp fun D σ H ⟨O, g, k, r, F, e, Eo', q⟩ =>
  ⟨O, g, _, r, F, e, Eo'.go, fun v s O1 H1 g1 F1 gr1 p1 e1 => Eo'.rt s g1 e1.symm v σ O1 H1 F1 p1⟩⟩
/-- return x, x an own list: it goes out as it is -/
def retV (i : Nat) : DnT := fun g _ => match g[i]? with
  | some (.ow d) => .ret (.ow d) (g.set i .no)
  | some (.sh d) => .ret (.sh d) g
  | _ => .err
theorem dt_retV {i : Nat} {pos : Pos} (h : PE X e (tVar i)) : DT X W A (.Return (some e) pos) (retV i) := ⟨(ps_ret h).imp fun D σ H ⟨O, g, k, r, F, e, Eo', q⟩ => by
  unfold retV at e
  cases hs : g[i]? with
  | none => rw [hs] at e; exact absurd e.symm Eo'.go.ne
  | some s =>
    rw [hs] at e
    cases s with
    | no => exact absurd e.symm Eo'.go.ne
    | rf d => exact absurd e.symm Eo'.go.ne
    | sh d =>
      obtain ⟨v, ev, rv⟩ := F.sh i d hs
      exact ⟨v, ev, Eo'.rt _ g e.symm v σ O H F rv⟩
    | ow d =>
      obtain ⟨p, ep, ho, n, ro⟩ := F.ow i d hs
      have hi := F.lt hs
      have back : ∀ (j : Nat) (s : Sl), (g.set i .no)[j]? = some s → s = .no ∨ g[j]? = some s := fun j s hj => by
        rw [setIs] at hj
        split at hj
        · cases hj; exact .inl rfl
        · exact .inr hj
      refine ⟨_, ep, Eo'.rt _ _ e.symm _ σ O H (F.forget (by simp) back) ⟨p, rfl, ho, n, ro, fun j s hj o z => ?_⟩⟩
      rw [setIs] at hj
      split at hj
      · cases hj; cases o
      · rename_i hij
        exact hij (F.inj i j _ s p hs hj rfl o ep z)⟩
def retN : DnT := fun g _ => .ret (.sh .none) g
theorem dt_retN {pos : Pos} : DT X W A (.Return none pos) retN := ⟨ps_retN.imp fun D σ H ⟨O, g, k, r, F, e, Eo', q⟩ => Eo'.rt _ g e.symm .non σ O H F rfl⟩
/-- an expression whose value goes -/
def dropT {α : Type} (f : Gam → (α → Gam → R) → R) : DnT := fun g k => f g fun _ g' => k g'
theorem tG_drop {α : Type} {P : Pst α} {f : Gam → (α → Gam → R) → R} {D : Ends} {σ : L2.St} {H : Hp} (h : tST A W (dropT f) D σ H) : tG A W c P f σ H fun _ H1 => D.nx σ H1 := by
  obtain ⟨O, g, k, r, F, e, Eo', q⟩ := h
  exact ⟨O, g, _, r, F, e, Eo'.go, fun v s O1 H1 g1 F1 gr1 p1 e1 => q σ O1 H1 g1 F1 gr1.weak e1⟩
theorem dt_expr {f : DnD} {pos : Pos} (h : DM m X W A c e f) (hs : swapsWith e none pos.line X.env = pure false := by rfl) : DT X W A (.Expr e pos) (dropT f) := ⟨(ps_expr h.pe hs).imp fun _ _ _ h => tG_drop h⟩
theorem dt_doc {x j pos pos'} : DT X W A (.Expr (.Constant (.str x) j pos) pos') skipT := ⟨ps_doc.imp fun D σ H ⟨O, g, k, r, F, e, Eo', q⟩ => q σ O H g F Gr.refl e⟩
def iffT (ft : DnB) (f1 f2 : DnT) : DnT := fun g k => ft g fun b g1 => if b = true then f1 g1 k else f2 g1 k
theorem dt_if {t : Expr} {b1 b2 : List Stmt} {ft : DnB} {f1 f2 : DnT} {pos : Pos} (ht : DB X W A c t ft) (h1 : DTs X W A b1 f1) (h2 : DTs X W A b2 f2) : DT X W A (.If t b1 b2 pos) (iffT ft f1 f2) := ⟨(ps_if ht.pt h1.ps h2.ps).imp fun D σ H ⟨O, g, k, r, F, e, Eo', q⟩ => by
  refine ⟨O, g, _, r, F, e, Eo'.go, fun d O1 H1 g1 F1 gr1 e1 => ?_⟩
  cases d with
  | true => exact iteT ⟨O1, g1, k, r, F1, by simpa using e1, Eo'.on gr1, fun σ2 O2 H2 g2 F2 gr2 e2 => q σ2 O2 H2 g2 F2 (gr1.weak.trans gr2) e2⟩
  | false => exact iteF ⟨O1, g1, k, r, F1, by simpa using e1, Eo'.on gr1, fun σ2 O2 H2 g2 F2 gr2 e2 => q σ2 O2 H2 g2 F2 (gr1.weak.trans gr2) e2⟩⟩

/-! ### stores -/
/-- slot i may be stored -/
def stC (i : Nat) (s : Sl) (g : Gam) (k : Gam → R) : R := match g[i]? with
  | none => .err
  | some (.rf _) => .err
  | some _ => match s with
    | .sh d => k (g.set i (.sh d))
    | .ow d => k (g.set i (.ow d))
    | _ => .err
def asgT (i : Nat) (f : DnS) : DnT := fun g k => f g fun s g' => stC i s g' k
theorem store_pF {i : Nat} {O : Addr → Prop} {H : Hp} {σ : L2.St} {g : Gam} {k : Gam → R} {v : V} {s : Sl} {r : R} (F : FI A O σ H g) (p : pF A O H σ g v s) (e : stC i s g k = r) (ne : r ≠ .err) :
    ∃ g', k g' = r ∧ FI A O (σ.set i (some v)) H g' := by
  unfold stC at e
  split at e
  · exact absurd e.symm ne
  · exact absurd e.symm ne
  · rename_i s0 hn hs
    have hi := F.lt hs
    cases s with
    | no => exact absurd e.symm ne
    | rf d => exact absurd e.symm ne
    | sh d => exact ⟨_, e, F.setSh hi p⟩
    | ow d =>
      obtain ⟨q, rfl, ho, n, ro, ns⟩ := p
      exact ⟨_, e, F.setOw hi ho n ro ns⟩
/-- name = e -/
theorem dt_asg {i : Nat} {st : Stmt} {t : TE} {f : DnS} (h : PS X st (tAsg t (gName i))) (w : ∀ σ H Q, tG A W c (pF A) f σ H Q → t σ H Q) : DT X W A st (asgT i f) := ⟨h.imp fun D σ H ⟨O, g, k, r, F, e, Eo', q⟩ => by
  refine w σ H _ ⟨O, g, _, r, F, e, Eo'.go, fun v s O1 H1 g1 F1 gr1 p1 e1 => ?_⟩
  obtain ⟨g2, e2, F2⟩ := store_pF F1 p1 e1 Eo'.go.ne
  exact q _ O1 H1 g2 F2 gr1.weak e2⟩
theorem dt_set {i : Nat} {x : Str} {f : DnS} {pos pos' : Pos} (hN : X.N.Nodup) (hi : X.N[i]? = some x) (hx : Loc X.env.scope x) (he : DF X W A c e f) (hs : swapsWith e (some (.Name x pos')) pos.line X.env = pure false := by rfl) (hf : X.fn x = true ∨ X.env.scope.names.lookup x = some .local := by first | exact .inl rfl | exact .inr rfl | assumption) :
    DT X W A (.Assign [.Name x pos'] e pos) (asgT i f) := dt_asg (ps_set hN hi hx he.pe hs hf) fun _ _ _ h => h

/-! ### targets: names, and tuples of targets -/
abbrev DnG := D → Gam → (Gam → R) → R
/-- all slots but these are as they were -/
def SmO (is : List Nat) (σ σ' : L2.St) : Prop := σ'.length = σ.length ∧ ∀ j : Nat, j ∉ is → σ'[j]? = σ[j]?
theorem SmO.refl {is : List Nat} {σ : L2.St} : SmO is σ σ := ⟨rfl, fun _ _ => rfl⟩
theorem SmO.trans {is is' : List Nat} {σ σ1 σ2 : L2.St} (a : SmO is σ σ1) (b : SmO is' σ1 σ2) : SmO (is ++ is') σ σ2 :=
  ⟨b.1.trans a.1, fun j h => (b.2 j fun z => h (List.mem_append_right _ z)).trans (a.2 j fun z => h (List.mem_append_left _ z))⟩
def tGG (A : Act) (is : List Nat) (f : DnG) : TG := fun v σ H Q => ∃ (O : Addr → Prop) (g : Gam) (k : Gam → R) (r : R) (d : D), FI A O σ H g ∧ Rp O H d v ∧ f d g k = r ∧ r ≠ .err ∧ ∀ (σ' : L2.St) (g' : Gam), FI A O σ' H g' → SmO is σ σ' → k g' = r → Q σ' H
structure DG (X : Cx) (A : Act) (is : List Nat) (e : Expr) (f : DnG) : Prop where
  pg : PG X e (tGG A is f)
theorem _root_.L2.PG.imp {e : Expr} {t t' : TG} (h : PG X e t) (w : ∀ v σ H Q, t' v σ H Q → t v σ H Q) : PG X e t' := ⟨fun pins s σ H v u Q I r q => h.run pins s σ H v u Q I r (w v σ H Q q)⟩
def nameG (i : Nat) : DnG := fun d g k => stC i (.sh d) g k
theorem dg_name {i : Nat} {x : Str} {pos : Pos} (hN : X.N.Nodup) (hi : X.N[i]? = some x) (hx : Loc X.env.scope x) (hf : X.fn x = true ∨ X.env.scope.names.lookup x = some .local := by first | exact .inl rfl | exact .inr rfl | assumption) : DG X A [i] (.Name x pos) (nameG i) :=
  ⟨(pg_name hN hi hx hf).imp fun v σ H Q ⟨O, g, k, r, d, F, rp, e, ne, q⟩ => by
    obtain ⟨g', e', F'⟩ := store_pF (s := .sh d) F rp e ne
    exact q _ g' F' ⟨List.length_set, fun j hj => by rw [setV, if_neg (fun z => hj (by rw [z]; exact List.mem_singleton_self _))]⟩ e'⟩
abbrev DnGs := List D → Gam → (Gam → R) → R
def tGGs (A : Act) (is : List Nat) (f : DnGs) : TGs := fun vs σ H Q => ∃ (O : Addr → Prop) (g : Gam) (k : Gam → R) (r : R) (ds : List D), FI A O σ H g ∧ RpAll O H ds vs ∧ f ds g k = r ∧ r ≠ .err ∧ ∀ (σ' : L2.St) (g' : Gam), FI A O σ' H g' → SmO is σ σ' → k g' = r → Q σ' H
structure DGs (X : Cx) (A : Act) (is : List Nat) (es : List Expr) (f : DnGs) : Prop where
  pg : PGs X es (tGGs A is f)
theorem _root_.L2.PGs.imp {e : List Expr} {t t' : TGs} (h : PGs X e t) (w : ∀ v σ H Q, t' v σ H Q → t v σ H Q) : PGs X e t' := ⟨fun pins s σ H v u Q I r q => h.run pins s σ H v u Q I r (w v σ H Q q)⟩
def nilG : DnGs := fun ds g k => match ds with
  | [] => k g
  | _ => .err
def consG (f : DnG) (fs : DnGs) : DnGs := fun ds g k => match ds with
  | d :: ds => f d g fun g' => fs ds g' k
  | [] => .err
theorem dgs_nil : DGs X A [] [] nilG := ⟨pgs_nil.imp fun v σ H Q ⟨O, g, k, r, ds, F, rp, e, ne, q⟩ => by
  cases ds with
  | nil => exact ⟨rp, q σ g F .refl e⟩
  | cons _ _ => exact absurd e.symm ne⟩
theorem dgs_cons {es : List Expr} {f : DnG} {fs : DnGs} {is is' : List Nat} (h1 : DG X A is e f) (h2 : DGs X A is' es fs) (hs : (assignEach (e :: es) X.env).map (·.2) = assign e X.env :: (assignEach es X.env).map (·.2) := by rfl) : DGs X A (is ++ is') (e :: es) (consG f fs) :=
  ⟨(pgs_cons h1.pg h2.pg hs).imp fun v σ H Q ⟨O, g, k, r, ds, F, rp, e, ne, q⟩ => by
    cases ds with
    | nil => exact absurd e.symm ne
    | cons d ds =>
      obtain ⟨y, ys, rfl, r1, r2⟩ := rp
      exact ⟨y, ys, rfl, O, g, _, r, d, F, r1, e, ne, fun σ1 g1 F1 s1 e1 => ⟨O, g1, k, r, ds, F1, r2, e1, ne, fun σ2 g2 F2 s2 e2 => q σ2 g2 F2 (s1.trans s2) e2⟩⟩⟩
def tupG (n : Nat) (fs : DnGs) : DnG := fun d g k => match d with
  | .tuple ds => if ds.length = n then fs ds g k else .err
  | _ => .err
theorem dg_tup {es : List Expr} {k0 : Nat} {fs : DnGs} {n : Nat} {is : List Nat} {pos : Pos} (hc : X.calm = true) (h : DGs X A is es fs) (hn : (assignEach es X.env).length = n := by rfl) (hst : (assignEach es X.env).findIdx? (·.1) = none := by rfl) : DG X A is (.Tuple es k0 pos) (tupG n fs) :=
  ⟨(pg_tup hc h.pg hn hst).imp fun v σ H Q ⟨O, g, k, r, d, F, rp, e, ne, q⟩ => by
    cases d with
    | tuple ds =>
      have e : (if ds.length = n then fs ds g k else .err) = r := e
      by_cases hl : ds.length = n
      · rw [if_pos hl] at e
        obtain ⟨a, xs, rfl, na, ra, qa⟩ := rp
        exact ⟨a, xs, rfl, .inl ra, by rw [qa.length, hl], O, g, k, r, ds, F, qa, e, ne, q⟩
      · rw [if_neg hl] at e; exact absurd e.symm ne
    | _ => exact absurd e.symm ne⟩
/-- target = e, the target any -/
def bindT (f : DnD) (fg : DnG) : DnT := fun g k => f g fun d g' => fg d g' k
theorem dt_bind {tg : Expr} {f : DnD} {fg : DnG} {is : List Nat} {pos : Pos} (he : DS X W A c e f) (hg : DG X A is tg fg) (hs : swapsWithSole [tg] e pos.line X.env = pure false := by rfl) (hw : swappedStores [tg] e X.env = pure none := by rfl)
    (h1 : (assignEach [tg] X.env).map (·.2) = [assign tg X.env] := by rfl) : DT X W A (.Assign [tg] e pos) (bindT f fg) := ⟨(ps_asg he.pe hg.pg hs hw h1).imp fun D σ H ⟨O, g, k, r, F, e, Eo', q⟩ =>
  ⟨O, g, _, r, F, e, Eo'.go, fun v s O1 H1 g1 F1 gr1 p1 e1 => ⟨O1, g1, k, r, s, F1, p1, e1, Eo'.go.ne, fun σ2 g2 F2 _ e2 => q σ2 O1 H1 g2 F2 gr1.weak e2⟩⟩⟩
/-- a, b = e1, e2 (stored from the right) -/
def parT (i j : Nat) (fs : DnL) : DnT := fun g k => fs g fun ds g' => match ds with
  | [x, y] => stC i (.sh x) g' fun g2 => stC j (.sh y) g2 k
  | _ => .err
theorem dt_par {i j : Nat} {x y : Str} {fs : DnL} {px py pt : Pos} {kt k2 pt2} {pos : Pos} (hc : X.calm = true) (hN : X.N.Nodup) (hi : X.N[i]? = some x) (hj : X.N[j]? = some y) (hij : i ≠ j)
    (hx : X.env.scope.names.lookup x = some .local) (hy : X.env.scope.names.lookup y = some .local) (ha : DL true X W A c [a, b] fs)
    (hw : swappedStores [.Tuple [.Name x px, .Name y py] kt pt] (.Tuple [a, b] k2 pt2) X.env = pure (some [x, y]))
    (hs : swapsWithSole [.Tuple [.Name x px, .Name y py] kt pt] (.Tuple [a, b] k2 pt2) pos.line X.env = pure false := by rfl) :
    DT X W A (.Assign [.Tuple [.Name x px, .Name y py] kt pt] (.Tuple [a, b] k2 pt2) pos) (parT i j fs) := ⟨(ps_par hc hN hi hj hij hx hy ha.pa hw hs).imp fun D σ H ⟨O, g, k, r, F, e, Eo', q⟩ => by
  refine ⟨O, g, _, r, F, e, Eo'.go, fun vs ds O1 H1 g1 F1 gr1 p1 l1 e1 => ?_⟩
  have p1 : RpAll O1 H1 ds vs := p1
  match ds, l1, p1, e1 with
  | [d1, d2], _, ⟨v, _, e2, r1, w, _, e3, r2, e4⟩, e1 =>
    subst e2; subst e3; cases (show _ = [] from e4)
    obtain ⟨g2, e5, F2⟩ := store_pF (s := .sh d1) F1 r1 e1 Eo'.go.ne
    obtain ⟨g3, e6, F3⟩ := store_pF (s := .sh d2) F2 r2 e5 Eo'.go.ne
    exact ⟨v, w, rfl, q _ O1 H1 g3 F3 gr1.weak e6⟩⟩

/-! ### changes of own lists -/
/-- x.append(e) -/
def appT (i : Nat) (f : DnD) : DnD := fun g k => match g[i]? with
  | some (.ow (.list _)) | some (.rf (.list _)) => f g fun d g' => match g'[i]? with
    | some (.ow (.list ds)) => if ds.length < sizeLine then k .none (g'.set i (.ow (.list (ds ++ [d])))) else .err
    | some (.rf (.list ds)) => if ds.length < sizeLine then k .none (g'.set i (.rf (.list (ds ++ [d])))) else .err
    | _ => .err
  | _ => .err
/-- the own list of a slot -/
theorem FI.lstAt {σ : L2.St} {g : Gam} {i : Nat} {s : Sl} {ds : List D} (F : FI A O σ H g) (h : g[i]? = some s) (hs : s = .ow (.list ds) ∨ s = .rf (.list ds)) : ∃ p xs, σ[i]? = some (some (.ref p)) ∧ O p ∧ H p = some (.lst xs) ∧ RpAll O H ds xs := by
  rcases hs with rfl | rfl
  · obtain ⟨p, e, ho, _, xs, r, q⟩ := F.ow i _ h; exact ⟨p, xs, e, ho, r, q⟩
  · obtain ⟨p, er, e, xs, r, q⟩ := F.rf i _ h; exact ⟨p, xs, e, F.rO er, r, q⟩
theorem mv_write {p : Addr} {o : HO} (ho : O p) : ∀ a u, H a = some u → ¬ O a → upd H p o a = some u ∧ ¬ O a := fun a u e n => ⟨by rw [upd_ne (fun z => n (by rw [z]; exact ho))]; exact e, n⟩
end
set_option Elab.async false
set_option linter.all false
set_option maxRecDepth 100000
open PySem L2

/-! ### methods that change an own list -/
def lstOf : Option Sl → Option (List D)
  | some (.ow (.list ds)) => some ds
  | some (.rf (.list ds)) => some ds
  | _ => none
def stTo (g : Gam) (i : Nat) (d : D) : Gam := match g[i]? with
  | some s => g.set i (s.to d)
  | none => g
def mutC (i : Nat) (fs : DnL) (op : List D → List D → Option (D × List D)) : DnD := fun g k => match lstOf g[i]? with
  | some _ => fs g fun as g' => match lstOf g'[i]? with
    | some ds => match op ds as with
      | some (d, ds') => k d (stTo g' i (.list ds'))
      | none => .err
    | none => .err
  | none => .err
section
variable {X : Cx} {W : WX} {A : Act} {c : Bool} {e : Expr} {O : Addr → Prop} {H : Hp} {σ : L2.St} {g : Gam} {i : Nat} {ds : List D}
theorem FI.lstOf (F : FI A O σ H g) (h : Z.lstOf g[i]? = some ds) : ∃ s p xs, g[i]? = some s ∧ s.isOw = true ∧ σ[i]? = some (some (.ref p)) ∧ O p ∧ H p = some (.lst xs) ∧ RpAll O H ds xs := by
  unfold Z.lstOf at h
  split at h
  · rename_i ds' hs
    cases h
    obtain ⟨p, xs, q⟩ := F.lstAt hs (.inl rfl)
    exact ⟨_, p, xs, hs, rfl, q⟩
  · rename_i ds' hs
    cases h
    obtain ⟨p, xs, q⟩ := F.lstAt hs (.inr rfl)
    exact ⟨_, p, xs, hs, rfl, q⟩
  · cases h
/-- a value-level rule of such a method -/
def RuM (r : V → List V → Hp → VK → Prop) (op : List D → List D → Option (D × List D)) : Prop :=
  ∀ (O : Addr → Prop) (H : Hp) (p : Addr) (xs vs : List V) (ds as ds' : List D) (d : D) (Q : VK), H p = some (.lst xs) → RpAll O H ds xs → RpAll O H as vs → op ds as = some (d, ds') →
    (∀ v xs', RpAll O H ds' xs' → Rp O H d v → Q v (upd H p (.lst xs'))) → r (.ref p) vs H Q
theorem mut_core {K : PySem.W.Frag} {r : V → List V → Hp → VK → Prop} {op : List D → List D → Option (D × List D)} (hv : RuM r op) {fs : DnL} {n : Nat} {σ : L2.St} {H : Hp} {Q : VK}
    (h : tG A W false pS (mutC i fs op) σ H Q) : tVar i σ H fun x H1 => tyV K "list" x H1 ∧ tGL A W c n (pLM true) fs σ H1 fun xs H2 => r x xs H2 Q := by
  obtain ⟨O, g, k, r0, F, e, G, q⟩ := h
  unfold mutC at e
  cases h0 : lstOf g[i]? with
  | none => rw [h0] at e; exact absurd e.symm G.ne
  | some ds0 =>
    rw [h0] at e
    obtain ⟨s0, p, xs0, hs0, ho0, ep, hO, hp, q0⟩ := F.lstOf h0
    refine ⟨_, ep, .inl ⟨rfl, xs0, .inl (.inl hp)⟩, O, g, _, r0, F, e, G, fun vs as O1 H1 g1 F1 gr1 p1 l1 e1 => ?_⟩
    cases h1 : lstOf g1[i]? with
    | none => simp only [h1] at e1; exact absurd e1.symm G.ne
    | some ds =>
      simp only [h1] at e1
      obtain ⟨s1, p', xs, hs1, ho1, ep', hO', hp', q1⟩ := F1.lstOf h1
      rw [ep] at ep'
      have : p = p' := by injection ep' with z; injection z with z; injection z
      subst this
      cases h2 : op ds as with
      | none => simp only [h2] at e1; exact absurd e1.symm G.ne
      | some y =>
        obtain ⟨d, ds'⟩ := y
        simp only [h2] at e1
        refine hv O1 H1 p xs vs ds as ds' d Q hp' q1 p1 h2 fun v xs' r1 r2 => ?_
        have mv : ∀ a u, H1 a = some u → ¬ O1 a → upd H1 p (.lst xs') a = some u ∧ ¬ O1 a := mv_write hO'
        have Fw := F1.write (d := .list ds') (o := .lst xs') hs1 ho1 ep ⟨xs', upd_same, RpAll.move mv _ _ r1⟩
        have es : stTo g1 i (.list ds') = g1.set i (s1.to (.list ds')) := by unfold stTo; rw [hs1]
        rw [es] at e1
        exact q v d O1 _ _ Fw (gr1.weak.trans (Gr.write (c := false) hO')) (Rp.move mv _ _ r2) e1
/-- x.m(e, ..) on an own list -/
theorem ds_mut {o e : Expr} {es : List Expr} {name : Str} {id : String} {apos cpos : Pos} {r : V → List V → Hp → VK → Prop} {op : List D → List D → Option (D × List D)} {fs : DnL} (hv : RuM r op) (slot : Slot "list" name id)
    (hty : typeOf (.builtin id) = pure (.type "method_descriptor")) (hm : MtR X id r) (ho : PE X o (tVar i)) (ha : DL true X W A c (e :: es) fs)
    (hbase : attributeBase o name X.env (eval o X.env) = eval o X.env := by rfl)
    (hfew : ((backTo cpos (starEach (e :: es) X.env)).all (fun x => !x.1) && (backToKw cpos (keywordEach [] X.env)).all (fun x => x.1.isSome)
      && decide ((e :: es).length + ([] : List Keyword).length + (if ([] : List Keyword).isEmpty then 0 else 1) < 30)) = true := by rfl)
    (hline : (apos.endLine == cpos.line) = true := by rfl) (hs : starEach (e :: es) X.env = (false, eval e X.env) :: starEach es X.env := by rfl) (hplain : (backTo cpos (starEach es X.env)).any (·.1) = false := by rfl) :
    DS X W A false (.Call (.Attribute o name apos) (e :: es) [] cpos) (mutC i fs op) := ⟨(pe_bm PySem.F.plainAttrs_list slot hty hm ho ha.pa hbase hfew hline hs hplain).imp fun σ H Q h => mut_core hv h⟩
/-- x.m() on an own list -/
theorem ds_mut0 {o : Expr} {name : Str} {id : String} {apos cpos : Pos} {r : V → List V → Hp → VK → Prop} {op : List D → List D → Option (D × List D)} (hv : RuM r op) (slot : Slot "list" name id)
    (hty : typeOf (.builtin id) = pure (.type "method_descriptor")) (hm : MtR X id r) (ho : PE X o (tVar i))
    (hbase : attributeBase o name X.env (eval o X.env) = eval o X.env := by rfl) (hline : (apos.endLine == cpos.line) = true := by rfl) :
    DS X W A false (.Call (.Attribute o name apos) [] [] cpos) (mutC i nilC op) := ⟨(pe_bm0 PySem.F.plainAttrs_list slot hty hm ho hbase hline).imp fun σ H Q h => by
  obtain ⟨x, ex, ty, O, g, k, r0, F, e, G, q⟩ := mut_core (c := true) (n := 0) (K := X.K) hv h
  exact ⟨x, ex, ty, q [] [] O H g F Gr.refl rfl rfl e⟩⟩
def appO (ds as : List D) : Option (D × List D) := match as with
  | [d] => if ds.length < sizeLine then some (.none, ds ++ [d]) else none
  | _ => none
theorem ru_append : RuM rAppend appO := by
  intro O H p xs vs ds as ds' d Q hp r1 r2 ho hQ
  unfold appO at ho
  split at ho
  · split at ho
    · rename_i y hz
      cases ho
      obtain ⟨v, _, rfl, rv, e⟩ := r2
      cases (show _ = [] from e)
      refine ⟨p, xs, v, rfl, rfl, hp, by rw [r1.length]; exact hz, hQ _ _ (r1.append (RpAll.cons rv RpAll.nil)) rfl⟩
    · cases ho
  · cases ho
/-- x.append(e) -/
theorem ds_append {o e : Expr} {apos cpos : Pos} {fs : DnL} (ho : PE X o (tVar i)) (ha : DL true X W A c [e] fs) (hbase : attributeBase o "append" X.env (eval o X.env) = eval o X.env := by rfl)
    (hfew : ((backTo cpos (starEach [e] X.env)).all (fun x => !x.1) && (backToKw cpos (keywordEach [] X.env)).all (fun x => x.1.isSome)
      && decide ([e].length + ([] : List Keyword).length + (if ([] : List Keyword).isEmpty then 0 else 1) < 30)) = true := by rfl)
    (hline : (apos.endLine == cpos.line) = true := by rfl) (hs : starEach [e] X.env = (false, eval e X.env) :: starEach [] X.env := by rfl) :
    DS X W A false (.Call (.Attribute o "append" apos) [e] [] cpos) (mutC i fs appO) :=
  ds_mut ru_append PySem.F.slot_list_append PySem.F.type_list_append mt_append ho ha hbase hfew hline hs rfl
def popO (ds as : List D) : Option (D × List D) := match as with
  | [] => (ds[ds.length - 1]?).map fun d => (d, ds.dropLast)
  | _ => none
theorem ru_pop : RuM rPop popO := by
  intro O H p xs vs ds as ds' d Q hp r1 r2 ho hQ
  unfold popO at ho
  split at ho
  · cases hd : ds[ds.length - 1]? with
    | none => rw [hd] at ho; cases ho
    | some y =>
      rw [hd] at ho
      cases ho
      cases (show _ = [] from r2)
      obtain ⟨v, h1, h2⟩ := r1.get hd
      exact ⟨p, xs, v, rfl, rfl, hp, by rw [r1.length]; exact h1, hQ _ _ (r1.sub (fun l => l.dropLast) fun g l => by simp) h2⟩
  · cases ho
theorem ds_pop {o : Expr} {apos cpos : Pos} (ho : PE X o (tVar i)) (hbase : attributeBase o "pop" X.env (eval o X.env) = eval o X.env := by rfl) (hline : (apos.endLine == cpos.line) = true := by rfl) :
    DS X W A false (.Call (.Attribute o "pop" apos) [] [] cpos) (mutC i nilC popO) := ds_mut0 ru_pop PySem.F.slot_list_pop PySem.F.type_list_pop mt_pop ho hbase hline

/-! ### x[i] = e, x[i] += e on an own list -/
/-- o[k] = v, by the slot of o -/
def putC (i : Nat) (fi : DnD) (d : D) (g : Gam) (k : Gam → R) : R := match lstOf g[i]? with
  | some _ => fi g fun j g' => match lstOf g'[i]?, j with
    | some ds, .int n => match ixN ds.length n with
      | some m => k (stTo g' i (.list (ds.set m d)))
      | none => .err
    | _, _ => .err
  | none => .err
def subT (i : Nat) (fe : DnD) (fi : DnD) : DnT := fun g k => fe g fun d g' => putC i fi d g' k
/-- x[i] = e -/
theorem dt_sub {o ix : Expr} {fe fi : DnD} {pos pos' : Pos} {ca : Bool} (he : DS X W A c e fe) (ho : PE X o (tVar i)) (hi : DR X W A ca ix fi)
    (ha : ∀ v, assign (.Subscript o ix pos') X.env v = (do
      let ov ← holding [v] (eval o X.env)
      let iv ← holding [v, ov] (eval ix X.env)
      standAt pos'
      holding [v, ov, iv] (setItem ov iv v)
      release [v, ov, iv] []) := by intro _; rfl)
    (hs : swapsWithSole [.Subscript o ix pos'] e pos.line X.env = pure false := by rfl) (hw : swappedStores [.Subscript o ix pos'] e X.env = pure none := by rfl)
    (h1 : (assignEach [.Subscript o ix pos'] X.env).map (·.2) = [assign (.Subscript o ix pos') X.env] := by rfl) :
    DT X W A (.Assign [.Subscript o ix pos'] e pos) (subT i fe fi) := ⟨(ps_asg he.pe (pg_sub ho hi.pe set_list ha) hs hw h1).imp fun D σ H ⟨O, g, k, r, F, e, Eo', q⟩ => by
  refine ⟨O, g, _, r, F, e, Eo'.go, fun v d O1 H1 g1 F1 gr1 p1 e1 => ?_⟩
  have p1 : Rp O1 H1 d v := p1
  unfold putC at e1
  cases h0 : lstOf g1[i]? with
  | none => rw [h0] at e1; exact absurd e1.symm Eo'.go.ne
  | some ds0 =>
    rw [h0] at e1
    obtain ⟨s0, p, xs0, hs0, ho0, ep, hO, hp, q0⟩ := F1.lstOf h0
    refine ⟨_, ep, O1, g1, _, r, F1, e1, Eo'.go, fun jv j O2 H2 g2 F2 gr2 p2 e2 => ?_⟩
    cases h1 : lstOf g2[i]? with
    | none => simp only [h1] at e2; exact absurd e2.symm Eo'.go.ne
    | some ds =>
      simp only [h1] at e2
      obtain ⟨s1, p', xs, hs1, ho1, ep', hO', hp', q1⟩ := F2.lstOf h1
      rw [ep] at ep'
      have : p = p' := by injection ep' with z; injection z with z; injection z
      subst this
      cases j with
      | int n =>
        simp only at e2
        cases h2 : ixN ds.length n with
        | none => simp only [h2] at e2; exact absurd e2.symm Eo'.go.ne
        | some m =>
          simp only [h2] at e2
          have hj := rd_int p2
          subst hj
          refine ⟨p, xs, n, m, rfl, rfl, hp', by rw [q1.length]; exact h2, ?_⟩
          have mv : ∀ a u, H2 a = some u → ¬ O2 a → upd H2 p (.lst (xs.set m v)) a = some u ∧ ¬ O2 a := mv_write hO'
          have Fw := F2.write (d := .list (ds.set m d)) (o := .lst (xs.set m v)) hs1 ho1 ep ⟨_, upd_same, RpAll.move mv _ _ (q1.set (gr2.rp p1) m)⟩
          have es : stTo g2 i (.list (ds.set m d)) = g2.set i (s1.to (.list (ds.set m d))) := by unfold stTo; rw [hs1]
          rw [es] at e2
          exact q σ O2 _ _ Fw ((gr1.weak.trans gr2).trans (Gr.write (c := false) hO')) e2
      | _ => exact absurd e2.symm Eo'.go.ne⟩
theorem get_list : PGet X (rIxL X.K) := by
  intro pins s σ H o i ov iv Q I ro ri h
  obtain ⟨p, xs, k, v, rfl, rfl, hq, he, q⟩ := h
  cases ro
  obtain ⟨t, rfl⟩ := ri
  obtain ⟨its, r, pl, hz⟩ := I.list hq
  obtain ⟨j, h1, h2, h3, h4, h5⟩ := atI_get he
  obtain ⟨w, ew, rw'⟩ := r.get h2
  have hl := r.length
  have hsl := sizeLine_eq
  have fin : EP X pins σ Q w s := ⟨v, H, I, rw', q⟩
  by_cases h0 : 0 ≤ k
  · rw [seqIndex_of h0 h5] at h1
    have hj : k.toNat = j := Option.some.inj h1
    exact wpAny_getItem_list pl.isList h0 (by omega) (by rw [hj]; simpa using ew) fin
  · rw [seqIndex_neg (by omega) h4] at h1
    have hj : (k + (xs.length : Int)).toNat = j := Option.some.inj h1
    exact wpAny_getItem_list_neg pl.isList (by omega) (by rw [List.size_toArray]; omega) (by omega) (by rw [List.size_toArray, ← hl, hj]; simpa using ew) fin
/-- x[i] op= e: op of whole numbers -/
def augT (i : Nat) (fi fe : DnD) (f : Int → Int → Int) : DnT := fun g k => match lstOf g[i]? with
  | some _ => fi g fun j g1 => match lstOf g1[i]?, j with
    | some ds, .int n => match ixN ds.length n with
      | some m => match ds[m]? with
        | some (.int x) => fe g1 fun y g2 => match lstOf g2[i]?, y with
          | some ds2, .int y => match ixN ds2.length n with
            | some m2 => k (stTo g2 i (.list (ds2.set m2 (.int (f x y)))))
            | none => .err
          | _, _ => .err
        | _ => .err
      | none => .err
    | _, _ => .err
  | none => .err
theorem dt_aug {o ix : Expr} {fe fi : DnD} {f : Int → Int → Int} {op : Operator} {pos tpos : Pos} {ca : Bool} (hp : PIp X op (ipI f)) (ho : PE X o (tVar i)) (hi : DR X W A ca ix fi) (he : DR X W A c e fe)
    (ha : ∀ ov iv new, augStore ix ov iv new = (do holding [new, ov, iv] (setItem ov iv new); release [new, ov, iv] []; pure .next) := by intros; rfl) :
    DT X W A (.AugAssign (.Subscript o ix tpos) op e pos) (augT i fi fe f) := ⟨(ps_augS ho hi.pe get_list he.pe hp set_list ha).imp fun D σ H ⟨O, g, k, r, F, e, Eo', q⟩ => by
  unfold augT at e
  cases h0 : lstOf g[i]? with
  | none => rw [h0] at e; exact absurd e.symm Eo'.go.ne
  | some ds0 =>
    rw [h0] at e
    obtain ⟨s0, p, xs0, hs0, ho0, ep, hO, hp0, q0⟩ := F.lstOf h0
    refine ⟨_, ep, O, g, _, r, F, e, Eo'.go, fun jv j O2 H2 g2 F2 gr2 p2 e2 => ?_⟩
    cases h1 : lstOf g2[i]? with
    | none => simp only [h1] at e2; exact absurd e2.symm Eo'.go.ne
    | some ds =>
      simp only [h1] at e2
      obtain ⟨s1, p', xs, hs1, ho1, ep', hO', hp', q1⟩ := F2.lstOf h1
      rw [ep] at ep'
      have : p = p' := by injection ep' with z; injection z with z; injection z
      subst this
      cases j with
      | int n =>
        simp only at e2
        have hj := rd_int p2
        subst hj
        cases h2 : ixN ds.length n with
        | none => simp only [h2] at e2; exact absurd e2.symm Eo'.go.ne
        | some m =>
          simp only [h2] at e2
          cases h3 : ds[m]? with
          | none => simp only [h3] at e2; exact absurd e2.symm Eo'.go.ne
          | some old =>
            simp only [h3] at e2
            cases old with
            | int x =>
              obtain ⟨w, ew, rw'⟩ := q1.get h3
              cases (show w = _ from rw')
              refine ⟨p, xs, n, _, rfl, rfl, .inl (.inl hp'), by unfold atI; rw [q1.length, h2]; exact ew, O2, g2, _, r, F2, e2, Eo'.go, fun yv y O3 H3 g3 F3 gr3 p3 e3 => ?_⟩
              cases h4 : lstOf g3[i]? with
              | none => simp only [h4] at e3; exact absurd e3.symm Eo'.go.ne
              | some ds2 =>
                simp only [h4] at e3
                obtain ⟨s2, p', ys, hs2, ho2, ep', hO2, hp2, q2⟩ := F3.lstOf h4
                rw [ep] at ep'
                have : p = p' := by injection ep' with z; injection z with z; injection z
                subst this
                cases y with
                | int y =>
                  simp only at e3
                  have hy := rd_int p3
                  subst hy
                  cases h5 : ixN ds2.length n with
                  | none => simp only [h5] at e3; exact absurd e3.symm Eo'.go.ne
                  | some m2 =>
                    simp only [h5] at e3
                    refine ⟨x, y, rfl, rfl, p, ys, n, m2, rfl, rfl, hp2, by rw [q2.length]; exact h5, ?_⟩
                    have mv : ∀ a u, H3 a = some u → ¬ O3 a → upd H3 p (.lst (ys.set m2 (.int (f x y)))) a = some u ∧ ¬ O3 a := mv_write hO2
                    have Fw := F3.write (d := .list (ds2.set m2 (.int (f x y)))) (o := .lst (ys.set m2 (.int (f x y)))) hs2 ho2 ep ⟨_, upd_same, RpAll.move mv _ _ (q2.set (d := .int (f x y)) (v := .int (f x y)) rfl m2)⟩
                    have es : stTo g3 i (.list (ds2.set m2 (.int (f x y)))) = g3.set i (s2.to (.list (ds2.set m2 (.int (f x y))))) := by unfold stTo; rw [hs2]
                    rw [es] at e3
                    exact q σ O3 _ _ Fw ((gr2.weak.trans gr3).trans (Gr.write (c := false) hO2)) e3
                | _ => exact absurd e3.symm Eo'.go.ne
            | _ => exact absurd e2.symm Eo'.go.ne
      | _ => exact absurd e2.symm Eo'.go.ne⟩
/-- x op= e at a name, whole numbers -/
def augN (i : Nat) (fe : DnD) (f : Int → Int → Int) : DnT := fun g k => match g[i]? with
  | some (.sh (.int x)) => fe g fun y g' => match y with
    | .int y => stC i (.sh (.int (f x y))) g' k
    | _ => .err
  | _ => .err
theorem dt_augN {x : Str} {fe : DnD} {f : Int → Int → Int} {op : Operator} {pos pos' : Pos} (hp : PIp X op (ipI f)) (hN : X.N.Nodup) (hi : X.N[i]? = some x) (hx : Loc X.env.scope x) (he : DR X W A c e fe)
    (hf : X.fn x = true ∨ X.env.scope.names.lookup x = some .local := by first | exact .inl rfl | exact .inr rfl | assumption) : DT X W A (.AugAssign (.Name x pos') op e pos) (augN i fe f) := ⟨(ps_aug hN hi hx he.pe hp hf).imp fun D σ H ⟨O, g, k, r, F, e, Eo', q⟩ => by
  unfold augN at e
  split at e
  · rename_i x0 hs
    obtain ⟨v, ev, rv⟩ := F.sh i _ hs
    cases (show v = _ from rv)
    refine ⟨_, ev, O, g, _, r, F, e, Eo'.go, fun yv y O1 H1 g1 F1 gr1 p1 e1 => ?_⟩
    cases y with
    | int y =>
      have hy := rd_int p1
      subst hy
      obtain ⟨g2, e2, F2⟩ := store_pF (s := .sh (.int (f x0 y))) F1 (v := .int (f x0 y)) rfl e1 Eo'.go.ne
      exact ⟨x0, y, rfl, rfl, q _ O1 H1 g2 F2 gr1.weak e2⟩
    | _ => exact absurd e1.symm Eo'.go.ne
  · exact absurd e.symm Eo'.go.ne⟩
end
set_option Elab.async false
set_option linter.all false
set_option maxRecDepth 100000
open PySem L2

/-! ### what is walked -/
/-- from O, H on: J yields ds, one by one, whatever is done to own objects meanwhile -/
def ItOk (J : It) (O : Addr → Prop) (H : Hp) (ds : List D) : Prop :=
  ∀ (O2 : Addr → Prop) (H2 : Hp), Gr false O H O2 H2 → OT O2 H2 → ∀ i : Nat,
    (i < ds.length → J.go i H2 ∧ ∀ (x : V) (H3 : Hp), J.yld i H2 x H3 → ∃ d, ds[i]? = some d ∧ Same H2 H3 ∧ Rp O2 H3 d x) ∧ (ds.length ≤ i → J.stop i H2)
def tGI (A : Act) (W : WX) (c : Bool) (f : DnL) : TI := fun σ H Q =>
  ∃ (O : Addr → Prop) (g : Gam) (k : List D → Gam → R) (r : R), FI A O σ H g ∧ f g k = r ∧ Go A W r ∧
    ∀ (J : It) (ds : List D) (O' : Addr → Prop) (H' : Hp) (g' : Gam), FI A O' σ H' g' → Gr c O H O' H' → ItOk J O' H' ds → ds.length ≤ sizeLine → k ds g' = r → Q J H'
structure DI (X : Cx) (W : WX) (A : Act) (c : Bool) (tg iter : Expr) (f : DnL) : Prop where
  pi : PI X tg iter (tGI A W c f)
theorem _root_.L2.PI.imp {X : Cx} {tg e : Expr} {t t' : TI} (h : PI X tg e t) (w : ∀ σ H Q, t' σ H Q → t σ H Q) : PI X tg e t' := ⟨fun pins s σ H Q I q => h.run pins s σ H Q I (w σ H Q q)⟩

section
variable {X : Cx} {W : WX} {A : Act} {c ca cb m m' : Bool} {e a b tg : Expr} {O : Addr → Prop} {H : Hp}
/-- a list, a tuple or a text, whatever it is -/
def iSeq (K : PySem.W.Frag) (t : TE) : TI := fun σ H Q => t σ H fun x H1 =>
  ((∃ a xs, x = .ref a ∧ SqL K H1 a xs ∧ (xs.length ≤ sizeLine → Q (Itl K a) H1)) ∨ ∃ a xs, x = .ref a ∧ SqT K H1 a xs ∧ (xs.length ≤ sizeLine → Q (Itt K a) H1)) ∨ ∃ z, x = .str z ∧ Q (Its z) H1
theorem pi_seq {t : TE} (h : PE X e t) : PI X tg e (iSeq X.K t) := by
  refine ⟨fun pins s σ H Q I q => thn (h.run pins s σ H _ I q) fun v s1 ⟨x, H1, I1, r1, q1⟩ => ?_⟩
  rcases q1 with (⟨a, xs, rfl, hq, q1⟩ | ⟨a, xs, rfl, hq, q1⟩) | ⟨z, rfl, q1⟩
  · cases r1; obtain ⟨its, rv, p, hz⟩ := I1.list hq
    exact wpAny_pyIter_list p.isList (pi_one (tk := s1.toks) I1 _ (turn_list a _) ⟨_, Heap.get?_push_size _ rfl, rfl, rfl⟩ (q1 hz))
  · cases r1; obtain ⟨its, rv, p, hz⟩ := I1.tuple hq
    exact wpAny_pyIter_tuple (show s1.heap.IsTuple a its.toArray from p) (pi_one (tk := s1.toks) I1 _ (turn_tuple a _) ⟨_, Heap.get?_push_size _ rfl, rfl, rfl⟩ (q1 hz))
  · obtain ⟨t', rfl⟩ := r1
    by_cases ha : z.cps.all (· < 128) = true
    · exact wpAny_pyIter_ascii ha (pi_one (tk := s1.toks) I1 _ (turn_str _ z t' "str_ascii_iterator" (.inl rfl)) ⟨_, Heap.get?_push_size _ rfl, rfl, rfl⟩ q1)
    · exact wpAny_pyIter_wide (by simpa using ha) (pi_one (tk := s1.toks) I1 _ (turn_str _ z t' "str_iterator" (.inr rfl)) ⟨_, Heap.get?_push_size _ rfl, rfl, rfl⟩ q1)
/-- a text's signs, each a text -/
def signs (x : Str) : List D := x.cps.toList.map fun c => .str ⟨#[c]⟩
/-- the items that a datum is walked by -/
def itemsD : D → Option (List D)
  | .list ds => some ds
  | .tuple ds => some ds
  | .str x => if x.length ≤ sizeLine then some (signs x) else none
  | _ => none
def seqI (f : DnD) : DnL := fun g k => f g fun d g' => match itemsD d with
  | some ds => k ds g'
  | none => .err
theorem itOk_list {K : PySem.W.Frag} {a : Addr} {ds : List D} {xs : List V} (n : ¬ O a) (r : Rd H a (.lst xs)) (q : RpAll O H ds xs) : ItOk (Itl K a) O H ds := fun O2 H2 gr ot i => by
  have r2 := rd_move gr.1 n r
  have q2 := gr.rpAll q
  have hs : SqL K H2 a xs := .inl r2.1
  constructor
  · intro hi
    have hx : i < xs.length := by rw [q.length]; exact hi
    refine ⟨⟨xs, xs[i], hs, by simp [hx]⟩, fun x H3 ⟨e, y⟩ => ?_⟩
    subst e
    obtain ⟨d, e1, e2⟩ := q2.get' (y xs hs)
    exact ⟨d, e1, Same.refl _, e2⟩
  · intro hi
    exact ⟨xs, hs, by rw [q.length]; exact hi⟩
theorem itOk_tup {K : PySem.W.Frag} {a : Addr} {ds : List D} {xs : List V} (n : ¬ O a) (r : Rd H a (.tup xs)) (q : RpAll O H ds xs) : ItOk (Itt K a) O H ds := fun O2 H2 gr ot i => by
  have r2 := rd_move gr.1 n r
  have q2 := gr.rpAll q
  have hs : SqT K H2 a xs := .inl r2.1
  constructor
  · intro hi
    have hx : i < xs.length := by rw [q.length]; exact hi
    refine ⟨⟨xs, xs[i], hs, by simp [hx]⟩, fun x H3 ⟨e, y⟩ => ?_⟩
    subst e
    obtain ⟨d, e1, e2⟩ := q2.get' (y xs hs)
    exact ⟨d, e1, Same.refl _, e2⟩
  · intro hi
    exact ⟨xs, hs, by rw [q.length]; exact hi⟩
theorem signs_len (z : Str) : (signs z).length = z.length := by simp [signs, Str.length]
theorem itOk_str {z : Str} : ItOk (Its z) O H (signs z) := fun O2 H2 gr ot i => by
  have hl : (signs z).length = z.cps.size := by simp [signs]
  constructor
  · intro hi
    refine ⟨(by rw [← hl]; exact hi : i < z.cps.size), fun x H3 ⟨e, ch, hc, ex⟩ => ?_⟩
    subst e
    subst ex
    refine ⟨.str ⟨#[ch]⟩, ?_, Same.refl _, rfl⟩
    simp only [signs, List.getElem?_map, Array.getElem?_toList, hc, Option.map_some]
  · intro hi
    show z.cps.size ≤ i
    rw [← hl]; exact hi
theorem di_seq {f : DnD} (h : DS X W A c e f) : DI X W A c tg e (seqI f) := ⟨(pi_seq h.pe).imp fun σ H Q ⟨O, g, k, r, F, e0, G, q⟩ => by
  refine ⟨O, g, _, r, F, e0, G, fun v d O1 H1 g1 F1 gr1 p1 e1 => ?_⟩
  have p1 : Rp O1 H1 d v := p1
  cases hi : itemsD d with
  | none => simp only [hi] at e1; exact absurd e1.symm G.ne
  | some ds =>
    simp only [hi] at e1
    cases d with
    | list ds' =>
      cases hi
      obtain ⟨a, xs, rfl, n, ra, qa⟩ := p1
      exact .inl (.inl ⟨a, xs, rfl, .inl ra, fun hz => q _ ds O1 H1 g1 F1 gr1 (itOk_list n ra qa) (by rw [← qa.length]; exact hz) e1⟩)
    | tuple ds' =>
      cases hi
      obtain ⟨a, xs, rfl, n, ra, qa⟩ := p1
      exact .inl (.inr ⟨a, xs, rfl, .inl ra, fun hz => q _ ds O1 H1 g1 F1 gr1 (itOk_tup n ra qa) (by rw [← qa.length]; exact hz) e1⟩)
    | str z =>
      cases (show v = _ from p1)
      unfold itemsD at hi
      simp only at hi
      by_cases hz : z.length ≤ sizeLine
      · rw [if_pos hz] at hi
        cases hi
        exact .inr ⟨z, rfl, q _ _ O1 H1 g1 F1 gr1 itOk_str (by rw [signs_len]; exact hz) e1⟩
      · rw [if_neg hz] at hi; cases hi
    | _ => cases hi⟩
/-- range(n), range(a, b) -/
def rngD (lo hi : Int) : List D := (List.range (hi - lo).toNat).map fun i : Nat => .int (lo + (i : Int))
def rngOk (lo hi : Int) : Bool := decide (-(2 ^ 62) ≤ lo ∧ lo < 2 ^ 62 ∧ -(2 ^ 62) ≤ hi ∧ hi < 2 ^ 62 ∧ (hi - lo).toNat ≤ sizeLine)
theorem itOk_rng {lo : Int} {n : Nat} : ItOk (Itr lo n) O H ((List.range n).map fun i : Nat => .int (lo + (i : Int))) := fun O2 H2 gr ot i => by
  constructor
  · intro hi
    have hi : i < n := by simpa using hi
    refine ⟨hi, fun x H3 ⟨e, ex⟩ => ?_⟩
    subst e
    subst ex
    exact ⟨.int (lo + i), by simp [hi], Same.refl _, rfl⟩
  · intro hi
    exact (by simpa using hi : n ≤ i)
def rng1I (f : DnD) : DnL := fun g k => f g fun d g' => match d with
  | .int n => if rngOk 0 n = true then k (rngD 0 n) g' else .err
  | _ => .err
def rng2I (fa fb : DnD) : DnL := fun g k => fa g fun d g1 => fb g1 fun d' g2 => match d, d' with
  | .int a, .int b => if rngOk a b = true then k (rngD a b) g2 else .err
  | _, _ => .err
theorem di_rng1 {f : DnD} {p pos : Pos} (hg : Gl X "range") (hm : X.mg "range" = none) (h : DM m X W A c a f) (hs : starEach [a] X.env = [(false, eval a X.env)] := by rfl) (hs' : starEach [a] X.env = (false, eval a X.env) :: starEach [] X.env := by rfl) : DI X W A c tg (.Call (.Name "range" p) [a] [] pos) (rng1I f) :=
  ⟨(pi_range1 hg hm (dl_cons (m := false) (m' := m) h dl_nil (by cases m <;> rfl) hs').pa hs).imp fun σ H Q ⟨O, g, k, r, F, e0, G, q⟩ => by
  refine ⟨O, g, fun ds g' => match ds with | [.int n] => if rngOk 0 n = true then k (rngD 0 n) g' else .err | _ => .err, r, F, ?_, G, fun vs ds O1 H1 g1 F1 gr1 p1 l1 e1 => ?_⟩
  · rw [← e0]
    show f g _ = f g _
    congr 1
    funext d g'
    cases d <;> rfl
  · match ds, l1, p1, e1 with
    | [d], _, ⟨w, _, e2, r1, e3⟩, e1 =>
      subst e2; cases (show _ = [] from e3)
      cases d with
      | int n =>
        have hw := rd_int r1
        subst hw
        have e1 : (if rngOk 0 n = true then k (rngD 0 n) g1 else .err) = r := e1
        by_cases ho : rngOk 0 n = true
        · rw [if_pos ho] at e1
          have hh := of_decide_eq_true ho
          refine ⟨n, rfl, hh.2.2.1, hh.2.2.2.1, ?_⟩
          have e4 : (n - 0).toNat = n.toNat := by omega
          have hr : rngD 0 n = (List.range n.toNat).map fun i : Nat => PyData.int (0 + (i : Int)) := by unfold rngD; rw [e4]
          exact q _ _ O1 H1 g1 F1 (by simpa using gr1) (by rw [hr]; exact itOk_rng) (by rw [hr]; simpa [e4] using hh.2.2.2.2) e1
        · rw [if_neg ho] at e1; exact absurd e1.symm G.ne
      | _ => exact absurd e1.symm G.ne⟩
theorem di_rng2 {fa fb : DnD} {p pos : Pos} (hg : Gl X "range") (hm : X.mg "range" = none) (ha : DM m X W A ca a fa) (hb : DM m' X W A cb b fb) (hk : (m || cb) = true := by rfl) (hs : starEach [a, b] X.env = [(false, eval a X.env), (false, eval b X.env)] := by rfl) (hs2 : starEach [b] X.env = [(false, eval b X.env)] := by rfl)
    (hs' : starEach [a, b] X.env = (false, eval a X.env) :: starEach [b] X.env := by rfl) (hs3 : starEach [b] X.env = (false, eval b X.env) :: starEach [] X.env := by rfl) : DI X W A (ca && cb) tg (.Call (.Name "range" p) [a, b] [] pos) (rng2I fa fb) :=
  ⟨(pi_range2 hg hm (dl_cons (m := false) (m' := m) ha (dl_cons (m := false) (m' := m') hb dl_nil (by cases m' <;> rfl) hs3) (by cases m <;> cases cb <;> first | rfl | exact hk) hs').pa hs hs2).imp fun σ H Q ⟨O, g, k, r, F, e0, G, q⟩ => by
  refine ⟨O, g, fun ds g' => match ds with | [.int x, .int y] => if rngOk x y = true then k (rngD x y) g' else .err | _ => .err, r, F, ?_, G, fun vs ds O1 H1 g1 F1 gr1 p1 l1 e1 => ?_⟩
  · rw [← e0]
    show fa g _ = fa g _
    congr 1
    funext d g'
    show fb g' _ = fb g' _
    congr 1
    funext d' g''
    cases d <;> cases d' <;> rfl
  · match ds, l1, p1, e1 with
    | [d, d'], _, ⟨w, _, e2, r1, w', _, e3, r2, e4⟩, e1 =>
      subst e2; subst e3; cases (show _ = [] from e4)
      cases d with
      | int x =>
        cases d' with
        | int y =>
          have hw := rd_int r1
          have hw' := rd_int r2
          subst hw hw'
          have e1 : (if rngOk x y = true then k (rngD x y) g1 else .err) = r := e1
          by_cases ho : rngOk x y = true
          · rw [if_pos ho] at e1
            have hh := of_decide_eq_true ho
            refine ⟨x, y, rfl, ⟨hh.1, hh.2.1, hh.2.2.1, hh.2.2.2.1⟩, ?_⟩
            exact q _ _ O1 H1 g1 F1 (by simpa using gr1) itOk_rng (by rw [List.length_map, List.length_range]; exact hh.2.2.2.2) e1
          · rw [if_neg ho] at e1; exact absurd e1.symm G.ne
        | _ => exact absurd e1.symm G.ne
      | _ => exact absurd e1.symm G.ne⟩

/-! ### for -/
/-- behind a turn: what the loop did not know at its start is forgotten -/
def mask (g0 g : Gam) : Gam := List.zipWith (fun a b => match a with | .no => .no | _ => b) g0 g
def forR (f : D → Gam → R) (g0 : Gam) : List D → Gam → R
  | [], g => .nx g
  | d :: ds, g => match f d g with
    | .nx g' => if g'.length = g0.length then forR f g0 ds (mask g0 g') else .err
    | .ct g' => if g'.length = g0.length then forR f g0 ds (mask g0 g') else .err
    | .brk g' => if g'.length = g0.length then .nx (mask g0 g') else .err
    | .va _ _ => .err
    | r => r
def thenR (r : R) (k : Gam → R) : R := match r with
  | .nx g => k g
  | .brk _ => .err
  | .ct _ => .err
  | .va _ _ => .err
  | r => r
/-- for target in iter: body -/
def forT (fi : DnL) (fg : DnG) (fb : DnT) : DnT := fun g k => fi g fun ds g1 => thenR (forR (fun d g => fg d g fun g' => fb g' .nx) g1 ds g1) k
theorem FI.mask {σ : L2.St} {g g0 : Gam} (F : FI A O σ H g) (hl : g.length = g0.length) : FI A O σ H (mask g0 g) := by
  refine F.forget (by unfold Z.mask; rw [List.length_zipWith, hl, Nat.min_self]) fun i s h => ?_
  unfold Z.mask at h
  rw [List.getElem?_zipWith] at h
  cases h1 : g0[i]? with
  | none => rw [h1] at h; cases h
  | some s0 =>
    cases h2 : g[i]? with
    | none => rw [h1, h2] at h; cases h
    | some s1 =>
      rw [h1, h2] at h
      cases s0 with
      | no => cases h; exact .inl rfl
      | _ => cases h; exact .inr rfl
theorem dt_for {iter : Expr} {body : List Stmt} {fi : DnL} {fg : DnG} {fb : DnT} {is : List Nat} {pos : Pos} (hp : PassesOwn (model X.prog X.w) X.A X.env X.xe) (hc : X.calm = true) (hi : DI X W A c tg iter fi) (hg : DG X A is tg fg) (hb : DTs X W A body fb)
    (hs : ∀ x, foldedSetIterable iter X.env x = pure x := by intro _; rfl) : DT X W A (.For tg iter body [] pos) (forT fi fg fb) := ⟨(ps_for hp hc hi.pi hg.pg hb.ps hs).imp fun D σ H ⟨O, g, k, r, F, e, Eo', q⟩ => by
  refine ⟨O, g, _, r, F, e, Eo'.go, fun J ds O1 H1 g1 F1 gr1 io hz e1 => ?_⟩
  -- the turns that are left, from the slots as they are
  refine ⟨fun i n σ H => ∃ O2 g2, FI A O2 σ H g2 ∧ Gr false O1 H1 O2 H ∧ n = ds.length - i ∧ i ≤ ds.length ∧ thenR (forR (fun d g => fg d g fun g' => fb g' .nx) g1 (ds.drop i) g2) k = r, ⟨ds.length, O1, g1, F1, Gr.refl, rfl, Nat.zero_le _, e1⟩, ?_⟩
  rintro i n σ2 H2 ⟨O2, g2, F2, gr2, rfl, hi2, e2⟩
  have it := io O2 H2 gr2 F2.ot i
  by_cases hlt : i < ds.length
  · obtain ⟨go, step⟩ := it.1 hlt
    have hd : ds.drop i = ds[i] :: ds.drop (i + 1) := List.drop_eq_getElem_cons hlt
    rw [hd] at e2
    refine .inr ⟨go, fun σ' H' => ∃ O3 g3, FI A O3 σ' H' g3 ∧ Gr false O1 H1 O3 H' ∧ thenR (forR (fun d g => fg d g fun g' => fb g' .nx) g1 (ds.drop (i + 1)) g3) k = r, fun σ' H' ⟨O3, g3, F3, gr3, e3⟩ => ⟨ds.length - (i + 1), by omega, O3, g3, F3, gr3, rfl, hlt, e3⟩, fun x H3 y => ?_⟩
    obtain ⟨d, ed, sm, rp⟩ := step x H3 y
    have : d = ds[i] := by rw [List.getElem?_eq_getElem hlt] at ed; exact (Option.some.inj ed).symm
    subst this
    have F3 := F2.same sm
    have gr3 : Gr false O1 H1 O2 H3 := gr2.trans (c' := false) ⟨fun a o e n => ⟨sm a o e, n⟩, fun z => nomatch z⟩
    -- the turn's answer
    unfold forR at e2
    generalize hr : (fg ds[i] g2 fun g' => fb g' .nx) = rt at e2
    have nert : rt ≠ .err := fun z => by subst z; exact Eo'.go.ne e2.symm
    refine ⟨O2, g2, _, rt, ds[i], F3, rp, hr, nert, fun σ4 g4 F4 _ e4 => ?_⟩
    refine ⟨O2, g4, _, rt, F4, e4, ⟨⟨nert, fun cn gx ex cv σ5 O5 H5 hcv F5 => ?_⟩, fun s gx ex v σ5 O5 H5 F5 p5 => ?_, fun gx ex σ5 O5 H5 F5 gr5 => ?_, fun gx ex σ5 O5 H5 F5 gr5 => ?_⟩, fun σ5 O5 H5 g5 F5 gr5 e5 => ?_⟩
    · subst ex; exact Eo'.go.ex cn gx e2.symm cv σ5 O5 H5 hcv F5
    · subst ex; exact Eo'.rt s gx e2.symm v σ5 O5 H5 F5 p5
    · subst ex
      simp only at e2
      by_cases hl : gx.length = g1.length
      · rw [if_pos hl] at e2
        exact q σ5 O5 H5 _ (F5.mask hl) (gr1.weak.trans (gr3.trans gr5)) e2
      · rw [if_neg hl] at e2; exact absurd e2.symm Eo'.go.ne
    · subst ex
      simp only at e2
      by_cases hl : gx.length = g1.length
      · rw [if_pos hl] at e2
        exact ⟨O5, _, F5.mask hl, gr3.trans gr5, e2⟩
      · rw [if_neg hl] at e2; exact absurd e2.symm Eo'.go.ne
    · have ex : rt = .nx g5 := e5.symm
      subst ex
      simp only at e2
      by_cases hl : g5.length = g1.length
      · rw [if_pos hl] at e2
        exact ⟨O5, _, F5.mask hl, gr3.trans gr5, e2⟩
      · rw [if_neg hl] at e2; exact absurd e2.symm Eo'.go.ne
  · have hi : i = ds.length := by omega
    subst hi
    refine .inl ⟨it.2 (Nat.le_refl _), ?_⟩
    rw [List.drop_length] at e2
    exact q σ2 O2 H2 g2 F2 (gr1.weak.trans gr2) e2⟩
/-! ### while: at most n turns -/
def whileR (ft : DnB) (f : Gam → R) (g0 : Gam) : Nat → Gam → R
  | 0, _ => .err
  | n + 1, g => ft g fun b g' => if b = true then (match f g' with
      | .nx g2 => if g2.length = g0.length then whileR ft f g0 n (mask g0 g2) else .err
      | .ct g2 => if g2.length = g0.length then whileR ft f g0 n (mask g0 g2) else .err
      | .brk g2 => .nx g2
      | .va _ _ => .err
      | r => r) else .nx g'
def whileT (n : Nat) (ft : DnB) (fb : DnT) : DnT := fun g k => thenR (whileR ft (fun g' => fb g' .nx) g n g) k
theorem dt_while {t : Expr} {body : List Stmt} {ft : DnB} {fb : DnT} {pos : Pos} (n : Nat) (hp : PassesOwn (model X.prog X.w) X.A X.env X.xe) (ht : DB X W A c t ft) (hb : DTs X W A body fb) : DT X W A (.While t body [] pos) (whileT n ft fb) := ⟨(ps_while hp ht.pt hb.ps).imp fun D σ H ⟨O, g, k, r, F, e, Eo', q⟩ => by
  refine ⟨fun n σ1 H1 => ∃ O1 g1, FI A O1 σ1 H1 g1 ∧ Gr false O H O1 H1 ∧ thenR (whileR ft (fun g' => fb g' .nx) g n g1) k = r, ⟨n, O, g, F, Gr.refl, e⟩, ?_⟩
  rintro n σ1 H1 ⟨O1, g1, F1, gr1, e1⟩
  cases n with
  | zero => exact absurd e1.symm Eo'.go.ne
  | succ n =>
    unfold whileR at e1
    generalize hr : (ft g1 fun b g' => _) = rt at e1
    have nert : rt ≠ .err := fun z => by subst z; exact Eo'.go.ne e1.symm
    have gort : Go A W rt := ⟨nert, fun cn gx ex cv σ5 O5 H5 hcv F5 => by subst ex; exact Eo'.go.ex cn gx e1.symm cv σ5 O5 H5 hcv F5⟩
    refine ⟨O1, g1, _, rt, F1, hr, gort, fun b O2 H2 g2 F2 gr2 e2 => ?_⟩
    cases b with
    | false =>
      refine iteF ?_
      have ex : rt = .nx g2 := (by simpa using e2.symm)
      subst ex
      exact q σ1 O2 H2 g2 F2 (gr1.trans gr2) e1
    | true =>
      refine iteT ⟨fun σ' H' => ∃ O3 g3, FI A O3 σ' H' g3 ∧ Gr false O H O3 H' ∧ thenR (whileR ft (fun g' => fb g' .nx) g n g3) k = r, fun σ' H' h => ⟨n, Nat.lt_succ_self n, h⟩, ?_⟩
      simp only [if_true] at e2
      generalize hf : fb g2 .nx = rf at e2
      have nerf : rf ≠ .err := fun z => by subst z; exact nert e2.symm
      refine ⟨O2, g2, _, rf, F2, hf, ⟨⟨nerf, fun cn gx ex cv σ5 O5 H5 hcv F5 => ?_⟩, fun s gx ex v σ5 O5 H5 F5 p5 => ?_, fun gx ex σ5 O5 H5 F5 gr5 => ?_, fun gx ex σ5 O5 H5 F5 gr5 => ?_⟩, fun σ5 O5 H5 g5 F5 gr5 e5 => ?_⟩
      · subst ex; exact gort.ex cn gx e2.symm cv σ5 O5 H5 hcv F5
      · subst ex; subst e2; exact Eo'.rt s gx e1.symm v σ5 O5 H5 F5 p5
      · subst ex; subst e2; exact q σ5 O5 H5 gx F5 (gr1.trans (gr2.weak.trans gr5)) e1
      · subst ex
        simp only at e2
        by_cases hl : gx.length = g.length
        · rw [if_pos hl] at e2
          subst e2
          exact ⟨O5, _, F5.mask hl, gr1.trans (gr2.weak.trans gr5), e1⟩
        · rw [if_neg hl] at e2; exact absurd e2.symm nert
      · have ex : rf = .nx g5 := e5.symm
        subst ex
        simp only at e2
        by_cases hl : g5.length = g.length
        · rw [if_pos hl] at e2
          subst e2
          exact ⟨O5, _, F5.mask hl, gr1.trans (gr2.weak.trans gr5), e1⟩
        · rw [if_neg hl] at e2; exact absurd e2.symm nert⟩
end
set_option Elab.async false
set_option linter.all false
set_option maxRecDepth 100000
open PySem L2

/-! ### slots within a comprehension -/
def wipeG (g : Gam) : List Nat → Gam
  | [] => g
  | v :: vs => (wipeG g vs).set v .no
theorem wipeG_length (g : Gam) : ∀ vs : List Nat, (wipeG g vs).length = g.length
  | [] => rfl
  | v :: vs => by unfold wipeG; rw [List.length_set, wipeG_length g vs]
theorem wipeG_get (g : Gam) (i : Nat) : ∀ vs : List Nat, (wipeG g vs)[i]? = if i ∈ vs then (if i < g.length then some .no else none) else g[i]?
  | [] => by simp [wipeG]
  | v :: vs => by
    unfold wipeG
    rw [setIs, wipeG_length, wipeG_get g i vs]
    by_cases h : v = i
    · subst h; simp
    · rw [if_neg h]
      by_cases h2 : i ∈ vs
      · rw [if_pos h2, if_pos (List.mem_cons_of_mem _ h2)]
      · rw [if_neg h2, if_neg (by simp [h2]; exact fun z => h z.symm)]
theorem wipe_get (σ : L2.St) (i : Nat) : ∀ vs : List Nat, (wipe σ vs)[i]? = if i ∈ vs then (if i < σ.length then some none else none) else σ[i]?
  | [] => by simp [wipe]
  | v :: vs => by
    unfold wipe
    rw [setV, wipe_length, wipe_get σ i vs]
    by_cases h : v = i
    · subst h; simp
    · rw [if_neg h]
      by_cases h2 : i ∈ vs
      · rw [if_pos h2, if_pos (List.mem_cons_of_mem _ h2)]
      · rw [if_neg h2, if_neg (by simp [h2]; exact fun z => h z.symm)]
theorem wipe_sm {is vs : List Nat} {σ σ' : L2.St} (s : SmO is (wipe σ vs) σ') (h : ∀ i ∈ is, i ∈ vs) : wipe σ' vs = wipe σ vs := by
  refine List.ext_getElem? fun i => ?_
  have hl : σ'.length = σ.length := s.1.trans (wipe_length σ vs)
  rw [wipe_get, wipe_get, hl]
  by_cases hi : i ∈ vs
  · rw [if_pos hi, if_pos hi]
  · rw [if_neg hi, if_neg hi, s.2 i fun z => hi (h i z), wipe_get, if_neg hi]
def toRf (g : Gam) : Gam := g.map fun s => match s with
  | .ow d => .rf d
  | s => s
/-- what is known behind: own slots as they became -/
def backS : Sl → Sl → Sl
  | .ow _, .rf d => .ow d
  | .rf _, .rf d => .rf d
  | .sh _, .sh d => .sh d
  | .no, .sh d => .sh d
  | _, _ => .no
def back (g g' : Gam) : Gam := List.zipWith backS g g'
/-- an activation within: all that stands now is kept, but for own slots -/
def Act.inner (A : Act) (O : Addr → Prop) (σ : L2.St) (H : Hp) (g : Gam) : Act where
  H0 := H
  O0 := O
  Rf := fun i => match g[i]? with
    | some s => if s.isOw = true then (match σ[i]? with
      | some (some (.ref p)) => some p
      | _ => none) else none
    | none => none
  cls := A.cls
section
variable {A : Act} {O O' : Addr → Prop} {σ σ' : L2.St} {H H' : Hp} {g g' : Gam} {i : Nat} {p : Addr} {d : D}
theorem inner_rf {s : Sl} (h : g[i]? = some s) (o : s.isOw = true) (e : σ[i]? = some (some (.ref p))) : (A.inner O σ H g).Rf i = some p := by
  show (match g[i]? with | some s => _ | none => none) = _
  rw [h]
  simp only [o, e, if_true]
theorem inner_of {i : Nat} (h : (A.inner O σ H g).Rf i = some p) : ∃ s, g[i]? = some s ∧ s.isOw = true ∧ σ[i]? = some (some (.ref p)) := by
  have h : (match g[i]? with | some s => if s.isOw = true then (match σ[i]? with | some (some (.ref p)) => some p | _ => none) else none | none => none) = some p := h
  cases h1 : g[i]? with
  | none => rw [h1] at h; cases h
  | some s =>
    rw [h1] at h
    by_cases h2 : s.isOw = true
    · simp only [h2, if_true] at h
      refine ⟨s, rfl, h2, ?_⟩
      cases h3 : σ[i]? with
      | none => rw [h3] at h; cases h
      | some v =>
        rw [h3] at h
        cases v with
        | none => cases h
        | some v => cases v <;> cases h; rfl
    · simp only [h2] at h
      cases h
theorem toRf_get : (toRf g)[i]? = (g[i]?).map fun s => match s with
  | .ow d => .rf d
  | s => s := by unfold toRf; rw [List.getElem?_map]
theorem FI.enter (F : FI A O σ H g) : FI (A.inner O σ H g) O σ H (toRf g) := by
  refine ⟨fun i d h => ?_, fun i d h => ?_, fun i d h => ?_, fun i j s t p h1 h2 o1 o2 e1 e2 => ?_, fun a o e _ => e, fun a o e => ⟨o, e⟩, fun a h => h, fun a h => .inl h, F.ot, F.ot, fun i p h => ?_, by unfold toRf; rw [List.length_map]; exact F.len⟩
  · rw [toRf_get] at h
    cases h1 : g[i]? with
    | none => rw [h1] at h; cases h
    | some s =>
      rw [h1] at h
      cases s with
      | sh d' => cases h; exact F.sh i _ h1
      | _ => cases h
  · rw [toRf_get] at h
    cases h1 : g[i]? with
    | none => rw [h1] at h; cases h
    | some s => rw [h1] at h; cases s <;> cases h
  · rw [toRf_get] at h
    cases h1 : g[i]? with
    | none => rw [h1] at h; cases h
    | some s =>
      rw [h1] at h
      cases s with
      | ow d' =>
        cases h
        obtain ⟨p, e, _, _, r⟩ := F.ow i _ h1
        exact ⟨p, inner_rf h1 rfl e, e, r⟩
      | rf d' =>
        cases h
        obtain ⟨p, _, e, r⟩ := F.rf i _ h1
        exact ⟨p, inner_rf h1 rfl e, e, r⟩
      | _ => cases h
  · have bk : ∀ {i : Nat} {s : Sl}, (toRf g)[i]? = some s → s.isOw = true → ∃ s0, g[i]? = some s0 ∧ s0.isOw = true := fun {i s} h o => by
      rw [toRf_get] at h
      cases h1 : g[i]? with
      | none => rw [h1] at h; cases h
      | some s0 =>
        rw [h1] at h
        refine ⟨s0, rfl, ?_⟩
        cases s0 with
        | no => cases h; cases o
        | sh _ => cases h; cases o
        | ow _ => rfl
        | rf _ => rfl
    obtain ⟨s1, q1, q2⟩ := bk h1 o1
    obtain ⟨s2, q3, q4⟩ := bk h2 o2
    exact F.inj i j s1 s2 p q1 q3 q2 q4 e1 e2
  · obtain ⟨s, h1, o, e⟩ := inner_of h
    obtain ⟨q, e', ho, _⟩ := F.at h1 o
    rw [e] at e'
    have : p = q := by injection e' with z; injection z with z; injection z
    rw [this]; exact ho
/-- what an inner activation keeps -/
theorem FI.grIn (F : FI A O σ H g) (I : FI (A.inner O σ H g) O' σ' H' g') : Gr false O H O' H' := by
  refine ⟨fun a o e n => ?_, fun z => nomatch z⟩
  refine ⟨I.keep a o e fun i z => ?_, fun q => ?_⟩
  · obtain ⟨s, h1, ow, es⟩ := inner_of z
    obtain ⟨q, e', ho, _⟩ := F.at h1 ow
    rw [es] at e'
    have : a = q := by injection e' with z; injection z with z; injection z
    exact n (by rw [this]; exact ho)
  · rcases I.fr a q with z | z
    · exact n z
    · have z : H a = none := z
      rw [z] at e; cases e
theorem back_get : (back g g')[i]? = (match g[i]?, g'[i]? with
  | some a, some b => some (backS a b)
  | _, _ => none) := by
  unfold back
  rw [List.getElem?_zipWith]
  cases g[i]? <;> cases g'[i]? <;> rfl
theorem FI.leave (F : FI A O σ H g) (I : FI (A.inner O σ H g) O' σ' H' g') (hl : g'.length = g.length) : FI A O' σ' H' (back g g') := by
  have get : ∀ {i : Nat} {s : Sl}, (back g g')[i]? = some s → ∃ a b, g[i]? = some a ∧ g'[i]? = some b ∧ s = backS a b := fun {i s} h => by
    rw [back_get] at h
    cases h1 : g[i]? with
    | none => rw [h1] at h; cases h
    | some a =>
      cases h2 : g'[i]? with
      | none => rw [h1, h2] at h; cases h
      | some b => rw [h1, h2] at h; cases h; exact ⟨a, b, rfl, rfl, rfl⟩
  have rfAt : ∀ {i : Nat} {d : D}, g'[i]? = some (.rf d) → ∃ p s, g[i]? = some s ∧ s.isOw = true ∧ σ[i]? = some (some (.ref p)) ∧ σ'[i]? = some (some (.ref p)) ∧ RpO O' H' p d := fun {i d} h => by
    obtain ⟨p, er, e, r⟩ := I.rf i d h
    obtain ⟨s, h1, o, e'⟩ := inner_of er
    exact ⟨p, s, h1, o, e', e, r⟩
  refine ⟨fun i d h => ?_, fun i d h => ?_, fun i d h => ?_, fun i j s t p h1 h2 o1 o2 e1 e2 => ?_, fun a o e na => ?_, fun a o e => ?_, fun a h => I.up a (F.up a h), fun a h => ?_, F.o0, I.ot, F.r0, by unfold back; rw [List.length_zipWith, hl, Nat.min_self, ← hl]; exact I.len⟩
  · obtain ⟨a, b, h1, h2, e⟩ := get h
    cases a <;> cases b <;> cases e <;> exact I.sh i _ h2
  · obtain ⟨a, b, h1, h2, e⟩ := get h
    cases a with
    | ow d0 =>
      cases b with
      | rf d1 =>
        cases e
        obtain ⟨p, s, q1, q2, q3, q4, q5⟩ := rfAt h2
        obtain ⟨p', e', ho, n, _⟩ := F.ow i _ h1
        rw [q3] at e'
        have : p = p' := by injection e' with z; injection z with z; injection z
        subst this
        exact ⟨p, q4, I.up p ho, n, q5⟩
      | _ => cases e
    | _ => cases b <;> cases e
  · obtain ⟨a, b, h1, h2, e⟩ := get h
    cases a with
    | rf d0 =>
      cases b with
      | rf d1 =>
        cases e
        obtain ⟨p, s, q1, q2, q3, q4, q5⟩ := rfAt h2
        obtain ⟨p', er, e', _⟩ := F.rf i _ h1
        rw [q3] at e'
        have : p = p' := by injection e' with z; injection z with z; injection z
        subst this
        exact ⟨p, er, q4, q5⟩
      | _ => cases e
    | _ => cases b <;> cases e
  · obtain ⟨a, b, h1', h2', e⟩ := get h1
    obtain ⟨a2, b2, h3', h4', e'⟩ := get h2
    have rf : ∀ {a b s : Sl}, s = backS a b → s.isOw = true → b.isOw = true := fun {a b s} e o => by
      subst e; cases a <;> cases b <;> first | rfl | cases o
    exact I.inj i j b b2 p h2' h4' (rf e o1) (rf e' o2) e1 e2
  · refine I.keep a o (F.keep a o e na) fun i z => ?_
    obtain ⟨s, h1, ow, es⟩ := inner_of z
    cases s with
    | no => cases ow
    | sh _ => cases ow
    | ow d =>
      obtain ⟨q, e', _, n, _⟩ := F.ow i d h1
      rw [es] at e'
      have : a = q := by injection e' with z; injection z with z; injection z
      subst this; rw [n] at e; cases e
    | rf d =>
      obtain ⟨q, er, e', _⟩ := F.rf i d h1
      rw [es] at e'
      have : a = q := by injection e' with z; injection z with z; injection z
      subst this; exact na i er
  · obtain ⟨o1, e1⟩ := F.tr a o e
    exact I.tr a o1 e1
  · rcases I.fr a h with z | z
    · exact F.fr a z
    · exact .inr (F.h0 z)
/-- slots of which nothing is known may be anything -/
theorem FI.slots (F : FI A O σ H g) (hl : σ'.length = σ.length) (h : ∀ (j : Nat) (s : Sl), g[j]? = some s → s ≠ .no → σ'[j]? = σ[j]?) : FI A O σ' H g := by
  refine ⟨fun i d hs => ?_, fun i d hs => ?_, fun i d hs => ?_, fun i j s t p h1 h2 o1 o2 e1 e2 => ?_, F.keep, F.tr, F.up, F.fr, F.o0, F.ot, F.r0, F.len.trans hl.symm⟩
  · rw [h i _ hs (fun z => nomatch z)]; exact F.sh i d hs
  · rw [h i _ hs (fun z => nomatch z)]; exact F.ow i d hs
  · rw [h i _ hs (fun z => nomatch z)]; exact F.rf i d hs
  · rw [h i _ h1 (fun z => by subst z; cases o1)] at e1
    rw [h j _ h2 (fun z => by subst z; cases o2)] at e2
    exact F.inj i j s t p h1 h2 o1 o2 e1 e2
theorem FI.wipeG (F : FI A O σ H g) (vs : List Nat) : FI A O σ H (Z.wipeG g vs) := F.forget (wipeG_length g vs) fun i s h => by
  rw [wipeG_get] at h
  split at h
  · split at h
    · cases h; exact .inl rfl
    · cases h
  · exact .inr h
theorem FI.wipe (F : FI A O σ H g) (vs : List Nat) : FI A O (L2.wipe σ vs) H (Z.wipeG g vs) := (F.wipeG vs).slots (wipe_length σ vs) fun j s h n => by
  rw [wipeG_get] at h
  rw [wipe_get]
  by_cases hj : j ∈ vs
  · rw [if_pos hj] at h
    split at h
    · cases h; exact absurd rfl n
    · cases h
  · rw [if_neg hj]
def NoSl (σ : L2.St) (g : Gam) (p : Addr) : Prop := ∀ (i : Nat) (s : Sl), g[i]? = some s → s.isOw = true → σ[i]? ≠ some (some (.ref p))
/-- an own object that is none of the slots' is changed -/
theorem FI.writeT (F : FI A O σ H g) {o : HO} (ho : O p) (n : A.H0 p = none) (ns : NoSl σ g p) : FI A O σ (upd H p o) g := by
  have mv := mv_write (H := H) (o := o) ho
  refine ⟨fun i d h => ?_, fun i d h => ?_, fun i d h => ?_, F.inj, fun a o' e na => ?_, fun a o' e => ?_, F.up, F.fr, F.o0, fun a h => ?_, F.r0, F.len⟩
  · obtain ⟨v, e, r⟩ := F.sh i d h; exact ⟨v, e, Rp.move mv _ _ r⟩
  · obtain ⟨q, e, hq, nq, r⟩ := F.ow i d h
    exact ⟨q, e, hq, nq, r.move mv fun o' e' => by rw [upd_ne (fun z => ns i _ h rfl (by rw [e, z]))]; exact e'⟩
  · obtain ⟨q, er, e, r⟩ := F.rf i d h
    exact ⟨q, er, e, r.move mv fun o' e' => by rw [upd_ne (fun z => ns i _ h rfl (by rw [e, z]))]; exact e'⟩
  · rw [upd_ne (fun z => by subst z; rw [n] at e; cases e)]; exact F.keep a o' e na
  · by_cases z : a = p
    · subst z; exact ⟨o, upd_same⟩
    · rw [upd_ne z]; exact F.tr a o' e
  · by_cases z : a = p
    · subst z; exact ⟨o, upd_same⟩
    · rw [upd_ne z]; exact F.ot a h
end
/-- no slot of vs is an own one -/
def okW (vs : List Nat) (g : Gam) : Bool := vs.all fun i => match g[i]? with
  | some s => !s.isOw
  | none => false
/-- the slots of vs as they were, the others as they are -/
def restW (vs : List Nat) (g1 g2 : Gam) : Gam := (List.range g2.length).map fun i => if i ∈ vs then (g1[i]?).getD .no else (g2[i]?).getD .no
def compR (f : D → Gam → R) (vs : List Nat) : List D → Gam → List D → Option (List D × Gam)
  | [], g, acc => some (acc, g)
  | d :: ds, g, acc => match f d (toRf g) with
    | .va (.sh y) g' => if g'.length = g.length then compR f vs ds (wipeG (back g g') vs) (acc ++ [y]) else none
    | .nx g' => if g'.length = g.length then compR f vs ds (wipeG (back g g') vs) acc else none
    | _ => none
/-- one turn: the target, the test, the element -/
def turnC (fg : DnG) (ft : DnB) (fe : DnD) : D → Gam → R := fun d g => fg d g fun g' => ft g' fun b g2 => if b = true then fe g2 fun y g3 => .va (.sh y) g3 else .nx g2
def lcC (vs : List Nat) (fi : DnL) (fg : DnG) (ft : DnB) (fe : DnD) : DnS := fun g k => fi g fun ds g1 => if okW vs g1 = true then (match compR (turnC fg ft fe) vs ds (wipeG g1 vs) [] with
  | some (out, g2) => k (.ow (.list out)) (restW vs g1 g2)
  | none => .err) else .err
def yesB : DnB := fun g k => k true g
/-- a clause's tests -/
structure DTss (X : Cx) (W : WX) (A : Act) (c : Bool) (ifs : List Expr) (f : DnB) : Prop where
  pt : PTs X ifs (tGT A W c f)
def W0 : WX := fun _ _ _ _ => False
section
variable {X : Cx} {W : WX} {A : Act} {c ca cb m m' : Bool} {e a b tg elt iter : Expr} {O : Addr → Prop} {H : Hp}
theorem _root_.L2.PTs.imp {es : List Expr} {t t' : TT} (h : PTs X es t) (w : ∀ σ H Q, t' σ H Q → t σ H Q) : PTs X es t' := ⟨fun pins s σ H Q I q => h.run pins s σ H Q I (w σ H Q q)⟩
theorem dts_yes : DTss X W A true [] yesB := ⟨pts_nil.imp fun σ H Q ⟨O, g, k, r, F, e, G, q⟩ => q true O H g F Gr.refl e⟩
theorem dts_if {t : Expr} {f : DnB} (h : DB X W A c t f) : DTss X W A c [t] f := ⟨pts_one h.pt⟩
/-- the state between two turns -/
structure LcS (A : Act) (vs : List Nat) (O1 : Addr → Prop) (H1 : Hp) (D0 : Addr) (σ : L2.St) (i : Nat) (H : Hp) (O : Addr → Prop) (g : Gam) (out : List D) (acc : List V) : Prop where
  F : FI A O σ H g
  gr : Gr false O1 H1 O H
  d : O D0
  dn : A.H0 D0 = none
  ds : NoSl σ g D0
  hd : H D0 = some (.lst acc)
  rp : RpAll O H out acc
  le : acc.length ≤ i
  wn : ∀ (j : Nat) (s : Sl), j ∈ vs → g[j]? = some s → s = .no
/-- an item of the new list, behind a turn -/
theorem LcS.keep {O1 : Addr → Prop} {H1 : Hp} {D0 : Addr} {σ σ' : L2.St} {i : Nat} {H H4 : Hp} {O O4 : Addr → Prop} {g g' : Gam} {out : List D} {acc : List V} {vs : List Nat} (S : LcS A vs O1 H1 D0 σ i H O g out acc)
    (I : FI (A.inner O σ H g) O4 σ' H4 g') (hl : g'.length = g.length) (hσ : ∀ j : Nat, j ∉ vs → σ'[j]? = σ[j]?) :
    H4 D0 = some (.lst acc) ∧ FI A O4 σ H4 (wipeG (back g g') vs) ∧ NoSl σ (wipeG (back g g') vs) D0 ∧ (∀ (j : Nat) (s : Sl), j ∈ vs → (wipeG (back g g') vs)[j]? = some s → s = .no) := by
  have hlen : σ'.length = σ.length := by rw [← I.len, hl, S.F.len]
  have Fb := S.F.leave I hl
  refine ⟨I.keep D0 _ S.hd fun j z => ?_, (Fb.wipeG vs).slots hlen.symm fun j s h n => ?_, fun j s h o => ?_, fun j s hj h => ?_⟩
  · obtain ⟨s, h1, o, e⟩ := inner_of z
    exact S.ds j s h1 o e
  · rw [wipeG_get] at h
    by_cases hj : j ∈ vs
    · rw [if_pos hj] at h
      split at h
      · cases h; exact absurd rfl n
      · cases h
    · exact (hσ j hj).symm
  · rw [wipeG_get] at h
    by_cases hj : j ∈ vs
    · rw [if_pos hj] at h
      split at h
      · cases h; cases o
      · cases h
    · rw [if_neg hj, back_get] at h
      cases h1 : g[j]? with
      | none => rw [h1] at h; cases h
      | some s0 =>
        cases h2 : g'[j]? with
        | none => rw [h1, h2] at h; cases h
        | some s1 =>
          rw [h1, h2] at h
          have ow : s0.isOw = true := by
            cases h
            cases s0 <;> cases s1 <;> first | rfl | cases o
          exact S.ds j s0 h1 ow
  · rw [wipeG_get, if_pos hj] at h
    split at h
    · cases h; rfl
    · cases h
theorem LcS.add {O1 : Addr → Prop} {H1 : Hp} {D0 : Addr} {σ σ' : L2.St} {i : Nat} {H H4 : Hp} {O O4 : Addr → Prop} {g g' : Gam} {out : List D} {acc : List V} {d : D} {y : V} {vs : List Nat} (S : LcS A vs O1 H1 D0 σ i H O g out acc)
    (I : FI (A.inner O σ H g) O4 σ' H4 g') (hl : g'.length = g.length) (hσ : ∀ j : Nat, j ∉ vs → σ'[j]? = σ[j]?) (r : Rp O4 H4 d y) :
    H4 D0 = some (.lst acc) ∧ LcS A vs O1 H1 D0 σ (i + 1) (upd H4 D0 (.lst (acc ++ [y]))) O4 (wipeG (back g g') vs) (out ++ [d]) (acc ++ [y]) := by
  obtain ⟨hD, Fw, ns, wn⟩ := S.keep I hl hσ
  have gr4 := S.F.grIn I
  have hO4 : O4 D0 := I.up D0 S.d
  have mv := mv_write (H := H4) (o := .lst (acc ++ [y])) hO4
  exact ⟨hD, Fw.writeT hO4 S.dn ns, S.gr.trans (gr4.trans (Gr.write (c := false) hO4)), hO4, S.dn, ns, upd_same, RpAll.move mv _ _ ((gr4.rpAll S.rp).append (RpAll.cons r RpAll.nil)), (by rw [List.length_append]; exact Nat.succ_le_succ S.le), wn⟩
theorem LcS.skip {O1 : Addr → Prop} {H1 : Hp} {D0 : Addr} {σ σ' : L2.St} {i : Nat} {H H4 : Hp} {O O4 : Addr → Prop} {g g' : Gam} {out : List D} {acc : List V} {vs : List Nat} (S : LcS A vs O1 H1 D0 σ i H O g out acc)
    (I : FI (A.inner O σ H g) O4 σ' H4 g') (hl : g'.length = g.length) (hσ : ∀ j : Nat, j ∉ vs → σ'[j]? = σ[j]?) : LcS A vs O1 H1 D0 σ (i + 1) H4 O4 (wipeG (back g g') vs) out acc := by
  obtain ⟨hD, Fw, ns, wn⟩ := S.keep I hl hσ
  exact ⟨Fw, S.gr.trans (S.F.grIn I), I.up D0 S.d, S.dn, ns, hD, (S.F.grIn I).rpAll S.rp, Nat.le_succ_of_le S.le, wn⟩
theorem tGI_weak {fi : DnL} {σ : L2.St} {H : Hp} {Q : It → Hp → Prop} (h : tGI A W false fi σ H Q) : tGI A W c fi σ H Q := by
  obtain ⟨O, g, k, r, F, e, G, q⟩ := h
  exact ⟨O, g, k, r, F, e, G, fun J ds O' H' g' F' gr io hz e' => q J ds O' H' g' F' gr.weak io hz e'⟩
/-- a comprehension's reading: wi the items, gt the target, tt the tests, te the element, each in its own activation -/
theorem lc_reads {vs is : List Nat} {fi : DnL} {fg : DnG} {ft : DnB} {fe : DnD} (hv : ∀ i ∈ is, i ∈ vs) {σ : L2.St} {H : Hp} {Q : VK} (h : tG A W false (pF A) (lcC vs fi fg ft fe) σ H Q) {wi : TI} {gt : TG} {tt : TT} {te : TE}
    (hi : ∀ σ H Q, tGI A W false fi σ H Q → wi σ H Q) (hg : ∀ (A' : Act) (_ : A'.cls = A.cls) v σ H Q, tGG A' is fg v σ H Q → gt v σ H Q) (ht : ∀ (A' : Act) (_ : A'.cls = A.cls) σ H Q, tGT A' W0 ca ft σ H Q → tt σ H Q) (he : ∀ (A' : Act) (_ : A'.cls = A.cls) σ H Q, tG A' W0 cb pS fe σ H Q → te σ H Q) :
    tLc wi gt tt te vs σ H Q := by
  obtain ⟨O, g, k, r, F, e, G, q⟩ := h
  refine hi _ _ _ ⟨O, g, _, r, F, e, G, fun J ds O1 H1 g1 F1 gr1 io hz e1 => ?_⟩
  by_cases hw : okW vs g1 = true
  case neg => rw [if_neg hw] at e1; exact absurd e1.symm G.ne
  rw [if_pos hw] at e1
  intro D0 hD0
  have hw' : ∀ j ∈ vs, ∃ s, g1[j]? = some s ∧ s.isOw = false := fun j hj => by
    have := List.all_eq_true.mp hw j hj
    cases h1 : g1[j]? with
    | none => rw [h1] at this; cases this
    | some s => rw [h1] at this; exact ⟨s, rfl, by simpa using this⟩
  -- what is left to do
  let σw := wipe σ vs
  have hfin : ∀ {H2 : Hp} {O2 : Addr → Prop} {g2 : Gam} {out : List D} {acc : List V}, LcS A vs O1 H1 D0 σw ds.length H2 O2 g2 out acc → k (.ow (.list out)) (restW vs g1 g2) = r → Q (.ref D0) H2 := fun {H2 O2 g2 out acc} S e2 => by
    have hl2 : g2.length = g1.length := by rw [S.F.len, F1.len]; exact wipe_length σ vs
    have getR : ∀ {j : Nat} {s : Sl}, (restW vs g1 g2)[j]? = some s → if j ∈ vs then g1[j]? = some s else g2[j]? = some s := fun {j s} h => by
      unfold restW at h
      rw [List.getElem?_map] at h
      by_cases hj : j < g2.length
      · rw [List.getElem?_range hj] at h
        have h : (if j ∈ vs then (g1[j]?).getD .no else (g2[j]?).getD .no) = s := Option.some.inj h
        by_cases hv : j ∈ vs
        · rw [if_pos hv] at h ⊢
          rw [List.getElem?_eq_getElem (by omega)] at h ⊢
          rw [← h]; rfl
        · rw [if_neg hv] at h ⊢
          rw [List.getElem?_eq_getElem hj] at h ⊢
          rw [← h]; rfl
      · rw [List.getElem?_eq_none (by simpa using hj)] at h; cases h
    have Fr : FI A O2 σ H2 (restW vs g1 g2) := by
      have ow : ∀ {j : Nat} {s : Sl}, (restW vs g1 g2)[j]? = some s → s.isOw = true → g2[j]? = some s ∧ σ[j]? = σw[j]? := fun {j s} h o => by
        have h2 := getR h
        by_cases hv : j ∈ vs
        · rw [if_pos hv] at h2
          obtain ⟨s', e', o'⟩ := hw' j hv
          rw [h2] at e'; cases e'; rw [o'] at o; cases o
        · rw [if_neg hv] at h2
          exact ⟨h2, by show _ = (wipe σ vs)[j]?; rw [wipe_get, if_neg hv]⟩
      refine ⟨fun j d h => ?_, fun j d h => ?_, fun j d h => ?_, fun i j s t p h1 h2 o1 o2 e1 e2 => ?_, S.F.keep, S.F.tr, S.F.up, S.F.fr, S.F.o0, S.F.ot, S.F.r0, ?_⟩
      · have h2 := getR h
        by_cases hv : j ∈ vs
        · rw [if_pos hv] at h2
          obtain ⟨v, ev, rv⟩ := F1.sh j d h2
          exact ⟨v, ev, S.gr.rp rv⟩
        · rw [if_neg hv] at h2
          obtain ⟨v, ev, rv⟩ := S.F.sh j d h2
          refine ⟨v, ?_, rv⟩
          rw [← ev]
          show _ = (wipe σ vs)[j]?
          rw [wipe_get, if_neg hv]
      · obtain ⟨h2, eσ⟩ := ow h rfl
        rw [eσ]; exact S.F.ow j d h2
      · obtain ⟨h2, eσ⟩ := ow h rfl
        rw [eσ]; exact S.F.rf j d h2
      · obtain ⟨q1, z1⟩ := ow h1 o1
        obtain ⟨q2, z2⟩ := ow h2 o2
        rw [z1] at e1; rw [z2] at e2
        exact S.F.inj i j s t p q1 q2 o1 o2 e1 e2
      · unfold restW
        rw [List.length_map, List.length_range, hl2]
        exact F1.len
    refine q _ (.ow (.list out)) O2 H2 _ Fr (gr1.weak.trans S.gr) ⟨D0, rfl, S.d, S.dn, ⟨acc, S.hd, S.rp⟩, fun j s h o z => ?_⟩ e2
    have h2 := getR h
    by_cases hv : j ∈ vs
    · rw [if_pos hv] at h2
      obtain ⟨s', e', o'⟩ := hw' j hv
      rw [h2] at e'; cases e'; rw [o'] at o; cases o
    · rw [if_neg hv] at h2
      refine S.ds j s h2 o ?_
      show (wipe σ vs)[j]? = _
      rw [wipe_get, if_neg hv]; exact z
  refine ⟨fun i n H2 => n = ds.length - i ∧ i ≤ ds.length ∧ ∃ O2 g2 out acc, LcS A vs O1 H1 D0 σw i H2 O2 g2 out acc ∧ (match compR (turnC fg ft fe) vs (ds.drop i) g2 out with
    | some (out, g2) => k (.ow (.list out)) (restW vs g1 g2)
    | none => .err) = r, ⟨ds.length, rfl, Nat.zero_le _, Oadd O1 D0, wipeG g1 vs, [], [], ⟨?_, ?_, .inr rfl, F1.h0 hD0, ?_, upd_same, rfl, Nat.zero_le _, ?_⟩, e1⟩, ?_⟩
  · exact (F1.own hD0).wipe vs
  · exact ⟨fun a o ea n => ⟨same_new hD0 a o ea, fun z => z.elim n fun z => by subst z; rw [hD0] at ea; cases ea⟩, fun z => nomatch z⟩
  · intro j s h o z
    have Fw := F1.wipe vs
    exact Fw.free hD0 j s h o z
  · intro j s hj h
    rw [wipeG_get, if_pos hj] at h
    split at h
    · cases h; rfl
    · cases h
  rintro i n H2 ⟨rfl, hi2, O2, g2, out, acc, S, e2⟩
  have it := io O2 H2 S.gr S.F.ot i
  by_cases hlt : i < ds.length
  · obtain ⟨go, step⟩ := it.1 hlt
    have hd : ds.drop i = ds[i] :: ds.drop (i + 1) := List.drop_eq_getElem_cons hlt
    rw [hd] at e2
    unfold compR at e2
    refine .inr ⟨go, fun H' => ∃ O3 g3 out3 acc3, LcS A vs O1 H1 D0 σw (i + 1) H' O3 g3 out3 acc3 ∧ (match compR (turnC fg ft fe) vs (ds.drop (i + 1)) g3 out3 with
      | some (out, g2) => k (.ow (.list out)) (restW vs g1 g2)
      | none => .err) = r, fun H' h' => ⟨ds.length - (i + 1), by omega, rfl, hlt, h'⟩, fun x H3 y => ?_⟩
    obtain ⟨d, ed, sm, rp⟩ := step x H3 y
    have : d = ds[i] := by rw [List.getElem?_eq_getElem hlt] at ed; exact (Option.some.inj ed).symm
    subst this
    have S3 : LcS A vs O1 H1 D0 σw i H3 O2 g2 out acc := ⟨S.F.same sm, S.gr.trans (c' := false) ⟨fun a o e n => ⟨sm a o e, n⟩, fun z => nomatch z⟩, S.d, S.dn, S.ds, sm _ _ S.hd, RpAll.move (fun a o e n => ⟨sm a o e, n⟩) _ _ S.rp, S.le, S.wn⟩
    have Fi := S3.F.enter
    generalize hr : turnC fg ft fe ds[i] (toRf g2) = rt at e2
    have nert : rt ≠ .err := fun z => by subst z; exact G.ne e2.symm
    have noex : ∀ (A' : Act), Go A' W0 rt := fun A' => ⟨nert, fun cn gx ex cv σ5 O5 H5 hcv F5 => by subst ex; exact G.ne e2.symm⟩
    refine hg (A.inner O2 σw H3 g2) rfl _ _ _ _ ⟨O2, toRf g2, _, rt, ds[i], Fi, rp, hr, nert, fun σ4 g4 F4 sm4 e4 => ⟨wipe_sm sm4 hv, ?_⟩⟩
    have hσ4 : ∀ j : Nat, j ∉ vs → σ4[j]? = σw[j]? := fun j hj => sm4.2 j fun z => hj (hv j z)
    refine ht (A.inner O2 σw H3 g2) rfl _ _ _ ⟨O2, g4, _, rt, F4, e4, noex _, fun b O5 H5 g5 F5 gr5 e5 => ?_⟩
    have lenOf : ∀ {O6 : Addr → Prop} {H6 : Hp} {g6 : Gam}, FI (A.inner O2 σw H3 g2) O6 σ4 H6 g6 → g6.length = g2.length := fun {O6 H6 g6} F6 => by
      rw [F6.len, S3.F.len]; exact sm4.1
    cases b with
    | false =>
      refine iteF ?_
      have ex : rt = .nx g5 := by simpa using e5.symm
      subst ex
      have hl := lenOf F5
      simp only [hl, if_true] at e2
      exact ⟨O5, _, out, acc, S3.skip F5 hl hσ4, e2⟩
    | true =>
      refine iteT ?_
      refine he (A.inner O2 σw H3 g2) rfl _ _ _ ⟨O5, g5, _, rt, F5, by simpa using e5, noex _, fun y d O6 H6 g6 F6 gr6 p6 e6 => ?_⟩
      have ex : rt = .va (.sh d) g6 := e6.symm
      subst ex
      have hl := lenOf F6
      simp only [hl, if_true] at e2
      obtain ⟨hD, S6⟩ := S3.add F6 hl hσ4 p6
      exact ⟨acc, hD, Nat.lt_of_le_of_lt S3.le (Nat.lt_of_lt_of_le hlt hz), O6, _, _, _, S6, e2⟩
  · have hi : i = ds.length := by omega
    subst hi
    rw [List.drop_length] at e2
    exact .inl ⟨it.2 (Nat.le_refl _), hfin S e2⟩
theorem pg_ex {is : List Nat} {fg : DnG} {p : Act → Prop} (h : ∀ A', p A' → DG X A' is tg fg) : PG X tg (fun v σ H Q => ∃ A', p A' ∧ tGG A' is fg v σ H Q) := ⟨fun pins s σ H v u Q I r ⟨A', pa, q⟩ => (h A' pa).pg.run pins s σ H v u Q I r q⟩
theorem pts_ex {ifs : List Expr} {ft : DnB} {p : Act → Prop} (h : ∀ A', p A' → DTss X W A' c ifs ft) : PTs X ifs (fun σ H Q => ∃ A', p A' ∧ tGT A' W c ft σ H Q) := ⟨fun pins s σ H Q I ⟨A', pa, q⟩ => (h A' pa).pt.run pins s σ H Q I q⟩
theorem pe_ex {fe : DnD} {p : Act → Prop} (h : ∀ A', p A' → DS X W A' c e fe) : PE X e (fun σ H Q => ∃ A', p A' ∧ tG A' W c pS fe σ H Q) := ⟨fun pins s σ H Q I ⟨A', pa, q⟩ => (h A' pa).pe.run pins s σ H Q I q⟩
/-- the context of a comprehension's block -/
abbrev Blk (X : Cx) (scope : Scope) (P : Cx → Prop) : Prop := ∀ (s : Shared) (H : Hp) (C : Addr) (cl : List (Str × Addr)) (fp : List Addr), P (X.blk s H scope (compEnvC scope cl C X.env) fp)
/-- [elt for tg in iter if ..] -/
theorem df_lc {ifs : List Expr} {scope : Scope} {own : List (Str × Nat)} {pos : Pos} {fi : DnL} {fg : DnG} {ft : DnB} {fe : DnD} {is : List Nat} (hc : X.calm = true) (hN : X.N.Nodup) (hi : DI X W A c tg iter fi) (ok : BlkOk X.N X.env.scope scope own) (hv : ∀ i ∈ is, i ∈ own.map (·.2))
    (hg : Blk X scope fun Y => ∀ A' : Act, A'.cls = A.cls → DG Y A' is tg fg) (ht : Blk X scope fun Y => ∀ A' : Act, A'.cls = A.cls → DTss Y W0 A' ca ifs ft) (he : Blk X scope fun Y => ∀ A' : Act, A'.cls = A.cls → DS Y W0 A' cb elt fe) (hs : ∀ x, foldedSetIterable iter X.env x = pure x := by intro _; rfl) :
    DF X W A false (.ListComp elt [⟨tg, iter, ifs, 0⟩] scope pos) (lcC (own.map (·.2)) fi fg ft fe) :=
  ⟨(pe_lc hc hN hi.pi ok (fun s H C cl fp => pg_ex (hg s H C cl fp)) (fun s H C cl fp => pts_ex (ht s H C cl fp)) (fun s H C cl fp => pe_ex (he s H C cl fp)) hs).imp fun σ H Q h =>
    lc_reads hv h (fun _ _ _ h => tGI_weak h) (fun A' pa _ _ _ _ h => ⟨A', pa, h⟩) (fun A' pa _ _ _ h => ⟨A', pa, h⟩) fun A' pa _ _ _ h => ⟨A', pa, h⟩⟩
/-- name = [..] on one line -/
theorem dt_setLc {i : Nat} {y : Str} {py : Pos} {ifs : List Expr} {scope : Scope} {own : List (Str × Nat)} {pos spos : Pos} {fi : DnL} {fg : DnG} {ft : DnB} {fe : DnD} {is : List Nat} (hc : X.calm = true) (hN : X.N.Nodup) (hy : X.N[i]? = some y) (hyl : X.env.scope.names.lookup y = some .local)
    (hsw : swapsWith (.ListComp elt [⟨tg, iter, ifs, 0⟩] scope pos) (some (.Name y py)) spos.line X.env = pure true) (hi : DI X W A c tg iter fi) (ok : BlkOk X.N X.env.scope scope own) (hv : ∀ i ∈ is, i ∈ own.map (·.2))
    (hg : Blk X scope fun Y => ∀ A' : Act, A'.cls = A.cls → DG Y A' is tg fg) (ht : Blk X scope fun Y => ∀ A' : Act, A'.cls = A.cls → DTss Y W0 A' ca ifs ft) (he : Blk X scope fun Y => ∀ A' : Act, A'.cls = A.cls → DS Y W0 A' cb elt fe) (hs : ∀ x, foldedSetIterable iter X.env x = pure x := by intro _; rfl) :
    DT X W A (.Assign [.Name y py] (.ListComp elt [⟨tg, iter, ifs, 0⟩] scope pos) spos) (asgT i (lcC (own.map (·.2)) fi fg ft fe)) :=
  dt_asg (c := false) (ps_setLc hc hN hy hyl hsw hi.pi ok (fun s H C cl fp => pg_ex (hg s H C cl fp)) (fun s H C cl fp => pts_ex (ht s H C cl fp)) (fun s H C cl fp => pe_ex (he s H C cl fp)) hs) fun σ H Q h =>
    lc_reads hv h (fun _ _ _ h => tGI_weak h) (fun A' pa _ _ _ _ h => ⟨A', pa, h⟩) (fun A' pa _ _ _ h => ⟨A', pa, h⟩) fun A' pa _ _ _ h => ⟨A', pa, h⟩
end
set_option Elab.async false
set_option linter.all false
set_option maxRecDepth 100000
open PySem L2

/-! ### defs -/
inductive Rs where
  | ok (s : Sl) (rs : List D) | exc (c : Nat) | err
abbrev Fd := List D → Rs
/-- the slots at the entry: rf the parameters that are changed in place -/
def startG (rf : List Nat) : Nat → List D → Gam
  | _, [] => []
  | i, d :: ds => (if i ∈ rf then .rf d else .sh d) :: startG rf (i + 1) ds
def refsG (g : Gam) : List Nat → Option (List D)
  | [] => some []
  | i :: is => match g[i]?, refsG g is with
    | some (.rf d), some ds => some (d :: ds)
    | _, _ => none
def endR (rf : List Nat) : R → Rs
  | .ret s g => match refsG g rf with
    | some rs => .ok s rs
    | none => .err
  | .exc c _ => match rf with
    | [] => .exc c
    | _ :: _ => .err
  | _ => .err
/-- a def: its number of slots, the parameters that it changes, its body -/
def fnD (n : Nat) (rf : List Nat) (f : DnT) : Fd := fun ds => endR rf (f (startG rf 0 ds ++ List.replicate (n - ds.length) .no) fun g => .ret (.sh .none) g)

/-- the arguments -/
structure ArgsOk (O : Addr → Prop) (H : Hp) (rf : List Nat) (vs : List V) (ds : List D) : Prop where
  len : vs.length = ds.length
  sh : ∀ (i : Nat) (d : D), i ∉ rf → ds[i]? = some d → ∃ v, vs[i]? = some v ∧ Rp O H d v
  rg : ∀ (i : Nat) (d : D), i ∈ rf → ds[i]? = some d → ∃ p, vs[i]? = some (.ref p) ∧ O p ∧ RpO O H p d
  inj : ∀ (i j : Nat) (p : Addr), i ∈ rf → j ∈ rf → vs[i]? = some (.ref p) → vs[j]? = some (.ref p) → i = j
/-- what is promised of the value -/
def ValOk (O : Addr → Prop) (H H' : Hp) (v : V) : Sl → Prop
  | .sh d => Rp O H' d v
  | .ow d => ∃ p, v = .ref p ∧ O p ∧ H p = none ∧ RpO O H' p d
  | _ => False
def RefsOk (O : Addr → Prop) (H : Hp) (vs : List V) : List Nat → List D → Prop
  | [], rs => rs = []
  | i :: is, rs => ∃ d ds p, rs = d :: ds ∧ vs[i]? = some (.ref p) ∧ RpO O H p d ∧ RefsOk O H vs is ds
/-- the promise: the value is what the denotation tells; all that stood stands, but for what is changed in place -/
def spD (cls : Nat → Option Value) (n : Nat) (rf : List Nat) (φ : Fd) : Sp := fun vs H Q E => ∃ (O : Addr → Prop) (ds : List D), OT O H ∧ ArgsOk O H rf vs ds ∧ vs.length = n ∧ (match φ ds with
  | .ok s rs => ∀ (v : V) (O' : Addr → Prop) (H' : Hp), (∀ a o, H a = some o → (∀ i, i ∈ rf → vs[i]? ≠ some (.ref a)) → H' a = some o) → (∀ a o, H a = some o → ∃ o', H' a = some o') → (∀ a, O a → O' a) → (∀ a, O' a → O a ∨ H a = none) → OT O' H' →
      ValOk O' H H' v s → RefsOk O' H' vs rf rs → Q v H'
  | .exc c => ∀ (cv : Value) (H' : Hp), cls c = some cv → Same H H' → E cv none H'
  | .err => False)

theorem startG_get (rf : List Nat) : ∀ (ds : List D) (i j : Nat), (startG rf i ds)[j]? = (ds[j]?).map fun d => if i + j ∈ rf then .rf d else .sh d
  | [], _, _ => by simp [startG]
  | d :: ds, i, 0 => by simp [startG]
  | d :: ds, i, j + 1 => by
    have := startG_get rf ds (i + 1) j
    simp only [startG, List.getElem?_cons_succ, this]
    have e : i + 1 + j = i + (j + 1) := by omega
    rw [e]
theorem startG_length (rf : List Nat) : ∀ (ds : List D) (i : Nat), (startG rf i ds).length = ds.length
  | [], _ => rfl
  | d :: ds, i => by simp [startG, startG_length rf ds (i + 1)]
def actOf (cls : Nat → Option Value) (O : Addr → Prop) (H : Hp) (rf : List Nat) (vs : List V) : Act where
  H0 := H
  O0 := O
  Rf := fun i => if i ∈ rf then (match vs[i]? with
    | some (.ref p) => some p
    | _ => none) else none
  cls := cls
theorem actRf {cls : Nat → Option Value} {O : Addr → Prop} {H : Hp} {rf : List Nat} {vs : List V} {i : Nat} {p : Addr} : (actOf cls O H rf vs).Rf i = some p ↔ i ∈ rf ∧ vs[i]? = some (.ref p) := by
  show (if i ∈ rf then _ else _) = _ ↔ _
  by_cases h : i ∈ rf
  · rw [if_pos h]
    cases e : vs[i]? with
    | none => simp [h]
    | some v => cases v <;> simp [h]
  · rw [if_neg h]; simp [h]
theorem start_get {N : List Str} {vs : List V} {i : Nat} (h : i < vs.length) : (L2.start N vs)[i]? = (vs[i]?).map some := by
  unfold L2.start
  rw [List.getElem?_append_left (by simpa using h), List.getElem?_map]
theorem FI.start {cls : Nat → Option Value} {O : Addr → Prop} {H : Hp} {rf : List Nat} {vs : List V} {ds : List D} {N : List Str} (ot : OT O H) (a : ArgsOk O H rf vs ds) (hl : vs.length ≤ N.length) :
    FI (actOf cls O H rf vs) O (L2.start N vs) H (startG rf 0 ds ++ List.replicate (N.length - ds.length) .no) := by
  have get : ∀ {i : Nat} {s : Sl}, (startG rf 0 ds ++ List.replicate (N.length - ds.length) .no)[i]? = some s → s = .no ∨ ∃ d, ds[i]? = some d ∧ s = if i ∈ rf then .rf d else .sh d := fun {i s} h => by
    by_cases hi : i < ds.length
    · rw [List.getElem?_append_left (by rw [startG_length]; exact hi), startG_get, Nat.zero_add, List.getElem?_eq_getElem hi] at h
      exact .inr ⟨_, List.getElem?_eq_getElem hi, (Option.some.inj h).symm⟩
    · rw [List.getElem?_append_right (by rw [startG_length]; omega), List.getElem?_replicate] at h
      split at h
      · cases h; exact .inl rfl
      · cases h
  have lt : ∀ {i : Nat} {d : D}, ds[i]? = some d → i < vs.length := fun {i d} h => by rw [a.len]; exact (List.getElem?_eq_some_iff.mp h).1
  have rfOf : ∀ {i : Nat} {s : Sl}, (startG rf 0 ds ++ List.replicate (N.length - ds.length) .no)[i]? = some s → s.isOw = true → i ∈ rf ∧ i < vs.length := fun {i s} h o => by
    rcases get h with e | ⟨d, e1, e2⟩
    · subst e; cases o
    · by_cases hr : i ∈ rf
      · exact ⟨hr, lt e1⟩
      · rw [if_neg hr] at e2; subst e2; cases o
  refine ⟨fun i d h => ?_, fun i d h => ?_, fun i d h => ?_, fun i j s t p h1 h2 o1 o2 e1 e2 => ?_, fun _ _ e _ => e, fun a o e => ⟨o, e⟩, fun _ h => h, fun _ h => .inl h, ot, ot, fun i p h => ?_, ?_⟩
  · rcases get h with e | ⟨d', e1, e2⟩
    · cases e
    · by_cases hr : i ∈ rf
      · rw [if_pos hr] at e2; cases e2
      · rw [if_neg hr] at e2; cases e2
        obtain ⟨v, ev, rv⟩ := a.sh i d hr e1
        exact ⟨v, by rw [start_get (lt e1), ev]; rfl, rv⟩
  · rcases get h with e | ⟨d', e1, e2⟩
    · cases e
    · split at e2 <;> cases e2
  · rcases get h with e | ⟨d', e1, e2⟩
    · cases e
    · by_cases hr : i ∈ rf
      · rw [if_pos hr] at e2; cases e2
        obtain ⟨p, ev, ho, rv⟩ := a.rg i d hr e1
        exact ⟨p, actRf.mpr ⟨hr, ev⟩, by rw [start_get (lt e1), ev]; rfl, rv⟩
      · rw [if_neg hr] at e2; cases e2
  · obtain ⟨r1, l1⟩ := rfOf h1 o1
    obtain ⟨r2, l2⟩ := rfOf h2 o2
    rw [start_get l1] at e1
    rw [start_get l2] at e2
    refine a.inj i j p r1 r2 ?_ ?_
    · cases e : vs[i]? with
      | none => rw [e] at e1; cases e1
      | some v => rw [e] at e1; cases e1; rfl
    · cases e : vs[j]? with
      | none => rw [e] at e2; cases e2
      | some v => rw [e] at e2; cases e2; rfl
  · obtain ⟨hr, ev⟩ := actRf.mp h
    have hi : i < ds.length := by rw [← a.len]; exact (List.getElem?_eq_some_iff.mp ev).1
    obtain ⟨q, eq, ho, _⟩ := a.rg i _ hr (List.getElem?_eq_getElem hi)
    rw [ev] at eq
    have : p = q := by injection eq with z; injection z
    rw [this]; exact ho
  · have e1 := a.len
    rw [List.length_append, startG_length, List.length_replicate]
    unfold L2.start
    rw [List.length_append, List.length_map, List.length_replicate, e1]
theorem refsOk_of {cls : Nat → Option Value} {O O' : Addr → Prop} {H H' : Hp} {rf : List Nat} {vs : List V} {σ : L2.St} {g : Gam} (F : FI (actOf cls O H rf vs) O' σ H' g) : ∀ {is : List Nat} {rs : List D}, refsG g is = some rs → RefsOk O' H' vs is rs
  | [], rs, h => by cases h; rfl
  | i :: is, rs, h => by
    unfold refsG at h
    cases h1 : g[i]? with
    | none => rw [h1] at h; cases h
    | some s =>
      cases h2 : refsG g is with
      | none => rw [h1, h2] at h; cases s <;> cases h
      | some ds =>
        rw [h1, h2] at h
        cases s with
        | rf d =>
          cases h
          obtain ⟨p, er, _, r⟩ := F.rf i d h1
          exact ⟨d, ds, p, rfl, (actRf.mp er).2, r, refsOk_of F h2⟩
        | _ => cases h

/-! ### defs that are called where no text of an object is being made -/
/-- a def's promise, wherever no object's text is being made -/
structure FnG (P : Program) (w : World) (K : PySem.W.Frag) (mg : Str → Option Value) (base : Heap) (k : Nat) (f : Addr) (fd : FuncData) (ps : List Str) (sp : Sp) : Prop where
  len : ∀ vs H Q E, sp vs H Q E → vs.length = ps.length
  run : ∀ (A : Around) (outer : List Env) (s : Shared) (H : Hp) (args : Args) (us : List Value) (vs : List V) (Q : VK) (E : XK), A.guards = some [] → Room k A →
    Env0 P w K mg base A outer s H → BindsTo s fd args (ps.zip us) → Vals vs us → sp vs H Q E → codeAny (model P w) A (.call (.ref f) args) (CR (L2.CX P w) outer P w H s Q E) s
theorem FnG.mono {P : Program} {w : World} {K : PySem.W.Frag} {mg : Str → Option Value} {base : Heap} {j k : Nat} {f : Addr} {fd : FuncData} {ps : List Str} {sp : Sp} (F : FnG P w K mg base j f fd ps sp) (h : j ≤ k) : FnG P w K mg base k f fd ps sp :=
  ⟨F.len, fun A outer s H args us vs Q E hg hr => F.run A outer s H args us vs Q E hg (hr.mono h)⟩
section
open PySem.Spec PyProof.Rows
variable {P : Program} {w : World} {K : PySem.W.Frag} {mg : Str → Option Value} {base : Heap} {x qual : Str} {params : Arguments} {body : List Stmt} {scope : Scope} {dvs : List V} {kws : List (Str × V)} {f : Addr} {fd : FuncData}
theorem fnG_of {N ps : List Str} {k : Nat} {sp : Sp} (F : FunD K x qual params body scope dvs kws f fd) (S : FnScope N ps scope) (len : ∀ vs H Q E, sp vs H Q E → vs.length = ps.length)
    (hbody : ∀ (cdv : Value) (A : Around) (outer : List Env) (s : Shared) (H : Hp) (vs : List V) (Q : VK) (E : XK), A.guards = some [] → Room k (A.deeper (envOfC qual scope s.heap.objs.size f cdv)) → sp vs H Q E →
      ∃ t, PSs (cxOf (L2.CX P w) P w K mg base N qual scope f cdv A outer s H E) body t ∧ t { nx := fun _ H' => Q .non H', rt := Q } (L2.start N vs) H) : FnG P w K mg base (k + 1) f fd ps sp := by
  obtain ⟨oc, od, dV, kV, doc, pm, an, cdv, ct, osl, efd, atK, code, _, _⟩ := F.ex
  subst efd
  refine ⟨len, fun A outer s H args us vs Q E guard room env bind rel told => ?_⟩
  have kin : K.In s.heap := env.mod.kin.keeps fun a u q => (env.bs a u q).1
  have nolim : s.heap.NoLimit := env.mod.nolimit.keeps fun a u q => (env.bs a u q).1
  have slots : ∀ z ∈ ps.zip us, scope.names.lookup z.1 = some .local ∨
      (scope.names.lookup z.1 = some .cell ∧ ((cellsFrom (s.heap.objs.size + 1) scope.names []).lookup z.1).isSome = true) := fun z hz => by
    have hp := S.par z.1 (List.of_mem_zip (a := z.1) (b := z.2) hz).1
    exact hp.imp id fun q => ⟨q, PySem.W.cellsFrom_some _ _ _ (.inl q)⟩
  refine codeAny_call_function room.depth (kin _ _ atK) rfl S.co S.gen rfl (PySem.W.codeRec_of kin code)
    (bind _ _ _ _ (wpAny_newFunctionEnv_cells S.kind slots fun e1 he1 s1 grown => ?_))
  subst he1
  obtain ⟨t, walk, wish⟩ := hbody cdv A outer s H vs Q E guard (room.deeper _) told
  have inv := inv_start (CX := L2.CX P w) (E := E) (cd := cdv) (f := f) S room.hd env (len _ _ _ _ told) rel grown
  refine ⟨nolim.keeps grown.toInCall.keep, codeAny_func (wpAny_mono (walk.run [] s1 (L2.start N vs) H _ inv wish) (fun fl s' hs => ?_) fun _ _ hs => hs)⟩
  match fl, hs with
  | .ret u, ⟨v, σ', H', J, rv, q⟩ => exact ⟨v, H', J.os, J.bare, J.base, J.hok, rv, q⟩
  | .next, ⟨σ', H', J, q⟩ => exact ⟨V.non, H', J.os, J.bare, J.base, J.hok, rfl, q⟩
  | .brk, ⟨_, _, _, q⟩ => exact q.elim
  | .cont, ⟨_, _, _, q⟩ => exact q.elim
end
section
open PySem.Spec PyProof.Rows
variable {X : Cx} {k : Nat} {f : Addr} {fd : FuncData} {ps : List Str} {sp : Sp} {E : L2.St → XK} {x : Str} {p pos : Pos} {e : Expr} {es : List Expr} {t : TA}
theorem pe_callG (F : FnG X.prog X.w X.K X.mg X.base k f fd ps sp) (guard : X.A.guards = some []) (hr : Room k X.A) (hg : Gl X x) (hm : X.mg x = some (.ref f)) (hk : PySem.W.keepIn X.K (.ref f) = true) (hb : Binds X.K fd ps [])
    (hx : ∀ σ, PassesAt (L2.CX X.prog X.w) X σ (E σ)) (ha : PA X (e :: es) t) (hdb : (x == ("__debug__" : Str)) = false := by decide)
    (he : starEach (e :: es) X.env = (false, eval e X.env) :: starEach es X.env := by rfl) (hpl : (backTo pos (starEach es X.env)).any (·.1) = false := by rfl) : PE X (.Call (.Name x p) (e :: es) [] pos) (tCallS sp E t) := by
  refine ⟨fun pins s σ H Q I h => wpAny_Call_Name_kw (ld_glob I hg hm (PySem.W.callWith_K (h₀ := X.base) I.ok.mod.kin hk (thn (ha.run pos pins s σ H _ I h) fun us s1 ⟨vs, H1, I1, rel, q⟩ => ⟨I1.kIn, ?_⟩) he hpl) hdb)⟩
  have few : (us ++ []).length = ps.length := by rw [List.append_nil, ← rel.length]; exact F.len _ _ _ _ q
  have bind := hb s1 us I1.kIn few
  rw [List.append_nil] at bind
  refine wpAny_call (codeAny_mono (F.run X.A X.stack s1 H1 ⟨us, []⟩ us vs Q (E σ) guard hr I1.env0 bind rel q) fun r s' told => ?_)
  match r, told with
  | .error e, told => exact hx σ pins H1 s1 e s' I1 told
  | .ok (.ret u), told => exact I1.after told
  | .ok .next, told => exact told.elim
  | .ok .brk, told => exact told.elim
  | .ok .cont, told => exact told.elim
end
section
variable {P : Program} {w : World} {K : PySem.W.Frag} {mg : Str → Option Value} {base : Heap} {x qual : Str} {params : Arguments} {body : List Stmt} {scope : Scope} {dvs : List V} {kws : List (Str × V)} {f : Addr} {fd : FuncData} {cls : Nat → Option Value}
/-- THE RULE for a def: its body's judgement gives the promise -/
theorem fn_ok {N ps : List Str} {k : Nat} {rf : List Nat} {ft : DnT} (F : FunD K x qual params body scope dvs kws f fd) (S : FnScope N ps scope)
    (h : ∀ (cdv : Value) (A0 : Around) (outer : List Env) (s : Shared) (H : Hp) (E : XK), A0.guards = some [] → Room k (A0.deeper (PyProof.Rows.envOfC qual scope s.heap.objs.size f cdv)) → ∀ A : Act, A.cls = cls →
      DTs (cxOf (L2.CX P w) P w K mg base N qual scope f cdv A0 outer s H E) (fun c d _ H' => E c d H') A body ft) : FnG P w K mg base (k + 1) f fd ps (spD cls ps.length rf (fnD N.length rf ft)) := by
  refine fnG_of F S (fun vs H Q E ⟨O, ds, _, _, hl, _⟩ => hl) fun cdv A0 outer s H vs Q E hgd hr ⟨O, ds, ot, ao, hl, q⟩ => ?_
  refine ⟨_, (h cdv A0 outer s H E hgd hr (actOf cls O H rf vs) rfl).ps, ?_⟩
  have hN : vs.length ≤ N.length := by
    have := congrArg List.length S.pre
    rw [List.length_take] at this
    omega
  have F0 := FI.start (cls := cls) (N := N) ot ao hN
  unfold fnD at q
  generalize hr0 : ft (startG rf 0 ds ++ List.replicate (N.length - ds.length) .no) (fun g => .ret (.sh .none) g) = r0 at q
  have hrf : ∀ {a : Addr} {i : Nat}, (actOf cls O H rf vs).Rf i = some a → i ∈ rf ∧ vs[i]? = some (.ref a) := fun h => actRf.mp h
  have done : ∀ (s : Sl) (g : Gam), r0 = .ret s g → ∀ (v : V) (σ' : L2.St) (O' : Addr → Prop) (H' : Hp), FI (actOf cls O H rf vs) O' σ' H' g → pF (actOf cls O H rf vs) O' H' σ' g v s → Q v H' := fun s0 g ex v σ' O' H' F' pf => by
    subst ex
    unfold endR at q
    cases hg : refsG g rf with
    | none => simp only [hg] at q
    | some rs =>
      simp only [hg] at q
      refine q v O' H' (fun a o e n => F'.keep a o e fun i z => n i (hrf z).1 (hrf z).2) F'.tr F'.up F'.fr F'.ot ?_ (refsOk_of F' hg)
      cases s0 with
      | no => exact pf.elim
      | rf d => exact pf.elim
      | sh d => exact pf
      | ow d =>
        obtain ⟨p, e, ho, n, ro, _⟩ := pf
        exact ⟨p, e, ho, n, ro⟩
  refine ⟨O, _, _, r0, F0, hr0, ⟨⟨fun z => ?_, fun c g ex cv σ' O' H' hc F' => ?_⟩, done, fun g ex => ?_, fun g ex => ?_⟩, fun σ' O' H' g' F' gr e => done (.sh .none) g' e.symm .non σ' O' H' F' rfl⟩
  · subst z; exact q
  · subst ex
    cases rf with
    | nil => exact q cv H' hc fun a o e => F'.keep a o e fun i z => by cases (hrf z).1
    | cons _ _ => exact q.elim
  · subst ex; exact q.elim
  · subst ex; exact q.elim
end

/-! ### calls of own defs -/
/-- the arguments are values that go on; f is told by φ -/
def callC (φ : Fd) (fs : DnL) : DnS := fun g k => fs g fun ds g' => match φ ds with
  | .ok s [] => k s g'
  | .exc c => .exc c g'
  | _ => .err
section
variable {X : Cx} {W : WX} {A : Act} {c : Bool} {e : Expr} {es : List Expr} {x : Str} {p pos : Pos} {f : Addr} {fd : FuncData} {ps : List Str} {k : Nat} {φ : Fd} {fs : DnL}
/-- a def that may be called by its name, from level k -/
structure Cal (X : Cx) (cls : Nat → Option Value) (k : Nat) (x : Str) (n : Nat) (rf : List Nat) (φ : Fd) : Prop where
  ex : ∃ (f : Addr) (fd : FuncData) (ps : List Str), FnG X.prog X.w X.K X.mg X.base k f fd ps (spD cls n rf φ) ∧ X.mg x = some (.ref f) ∧ PySem.W.keepIn X.K (.ref f) = true ∧ Binds X.K fd ps []
/-- f(e, ..) -/
theorem df_call (C : Cal X A.cls k x es.length.succ [] φ) (gd : X.A.guards = some []) (hr : Room k X.A) (hg : Gl X x) (tk : Takes X W) (ha : DL true X W A c (e :: es) fs)
    (hdb : (x == ("__debug__" : Str)) = false := by decide) (he : starEach (e :: es) X.env = (false, eval e X.env) :: starEach es X.env := by rfl) (hpl : (backTo pos (starEach es X.env)).any (·.1) = false := by rfl) :
    DF X W A c (.Call (.Name x p) (e :: es) [] pos) (callC φ fs) := by
  obtain ⟨f, fd, ps, G, hm, hk, hb⟩ := C.ex
  refine ⟨(pe_callG G gd hr hg hm hk hb (fun σ => passAt tk σ) ha.pa hdb he hpl).imp fun σ H Q ⟨O, g, k0, r, F, e0, G0, q⟩ => ?_⟩
  refine ⟨O, g, _, r, F, e0, G0, fun vs ds O1 H1 g1 F1 gr1 p1 l1 e1 => ?_⟩
  have p1 : RpAll O1 H1 ds vs := p1
  refine ⟨O1, ds, F1.ot, ⟨p1.length, fun i d _ h => p1.get h, (fun i d h => by cases h), (fun i j p h => by cases h)⟩, by rw [p1.length, l1]; rfl, ?_⟩
  cases hφ : φ ds with
  | err => simp only [hφ] at e1; exact G0.ne e1.symm
  | exc cn =>
    simp only [hφ] at e1
    intro cv H' hc sm
    exact G0.ex cn g1 e1.symm cv σ O1 H' hc (F1.same sm)
  | ok s rs =>
    cases rs with
    | cons _ _ => simp only [hφ] at e1; exact absurd e1.symm G0.ne
    | nil =>
      simp only [hφ] at e1
      intro v O' H' same tr up fr ot vo ro
      have sm : Same H1 H' := fun a o e => same a o e fun i h => by cases h
      have F' : FI A O' σ H' g1 := F1.step sm up fun a h => (fr a h).elim .inl fun z => .inr ⟨z, ot a h⟩
      have gr' : Gr c O H O' H' := by
        refine ⟨fun a o ea n => ?_, fun h => (gr1.2 h).trans sm⟩
        have := gr1.1 a o ea n
        exact ⟨sm a o this.1, fun z => (fr a z).elim this.2 fun z => by rw [this.1] at z; cases z⟩
      refine q v s O' H' g1 F' gr' ?_ e1
      cases s with
      | no => exact vo.elim
      | rf d => exact vo.elim
      | sh d => exact vo
      | ow d =>
        obtain ⟨p, ep, ho, n, r⟩ := vo
        exact ⟨p, ep, ho, F1.h0 n, r, F1.free n⟩
end
set_option Elab.async false
set_option linter.all false
set_option maxRecDepth 100000
open PySem L2

section
variable {A : Act} {O O' : Addr → Prop} {σ : L2.St} {H H' : Hp} {g : Gam} {p : Addr} {i : Nat} {d : D}
/-- an own slot's object was changed by a callee -/
theorem FI.called (F : FI A O σ H g) {s : Sl} (h : g[i]? = some s) (ow : s.isOw = true) (e : σ[i]? = some (some (.ref p))) (same : ∀ a o, H a = some o → a ≠ p → H' a = some o) (tr : ∀ a o, H a = some o → ∃ o', H' a = some o')
    (up : ∀ a, O a → O' a) (fr : ∀ a, O' a → O a ∨ H a = none) (ot : OT O' H') (r : RpO O' H' p d) : FI A O' σ H' (g.set i (s.to d)) := by
  have hi := F.lt h
  obtain ⟨q, e', hO, ⟨u, hu⟩, hm⟩ := F.at h ow
  rw [e] at e'
  have : p = q := by injection e' with e'; injection e' with e'; injection e'
  subst this
  have mv : ∀ a o', H a = some o' → ¬ O a → H' a = some o' ∧ ¬ O' a := fun a o' ea n => ⟨same a o' ea fun z => n (by rw [z]; exact hO), fun z => (fr a z).elim n fun z => by rw [z] at ea; cases ea⟩
  have cut : ∀ {j : Nat} {t : Sl}, i ≠ j → (g.set i (s.to d))[j]? = some t → g[j]? = some t := fun {j t} hij hs => by rw [setIs, if_neg hij] at hs; exact hs
  have self : (g.set i (s.to d))[i]? = some (s.to d) := by rw [setIs, if_pos rfl, if_pos hi]
  have hp0 : ∀ a o', A.H0 a = some o' → (∀ i, A.Rf i ≠ some a) → a ≠ p := fun a o' ea na z => by
    subst z
    cases s with
    | no => cases ow
    | sh d => cases ow
    | ow d0 =>
      obtain ⟨q, e1, _, n, _⟩ := F.ow i d0 h
      rw [e] at e1
      have : a = q := by injection e1 with e1; injection e1 with e1; injection e1
      subst this; rw [n] at ea; cases ea
    | rf d0 =>
      obtain ⟨q, er, e1, _⟩ := F.rf i d0 h
      rw [e] at e1
      have : a = q := by injection e1 with e1; injection e1 with e1; injection e1
      subst this; exact na i er
  refine ⟨fun j d' hs => ?_, fun j d' hs => ?_, fun j d' hs => ?_, fun j k t t' q h1 h2 o1 o2 e1 e2 => ?_, fun a o' ea na => same a o' (F.keep a o' ea na) (hp0 a o' ea na), fun a o' ea => ?_, fun a z => up a (F.up a z), fun a z => ?_, F.o0, ot, F.r0, by rw [List.length_set]; exact F.len⟩
  · have hij : i ≠ j := fun z => by
      subst z; rw [self] at hs
      cases s with
      | no => cases ow
      | sh d => cases ow
      | ow d => cases hs
      | rf d => cases hs
    obtain ⟨w, e, q⟩ := F.sh j d' (cut hij hs); exact ⟨w, e, Rp.move mv _ _ q⟩
  · by_cases hij : i = j
    · subst hij; rw [self] at hs
      cases s with
      | no => cases ow
      | sh d => cases ow
      | ow d0 =>
        cases hs
        obtain ⟨q, e1, ho, n, _⟩ := F.ow i d0 h
        rw [e] at e1
        have : p = q := by injection e1 with e1; injection e1 with e1; injection e1
        subst this
        exact ⟨p, e, up p ho, n, r⟩
      | rf d => cases hs
    · obtain ⟨q, eq, ho, n, rq⟩ := F.ow j d' (cut hij hs)
      have hne : q ≠ p := fun z => hij (F.inj i j s _ p h (cut hij hs) ow rfl e (by rw [eq, z]))
      exact ⟨q, eq, up q ho, n, rq.move mv fun o' q' => same q o' q' hne⟩
  · by_cases hij : i = j
    · subst hij; rw [self] at hs
      cases s with
      | no => cases ow
      | sh d => cases ow
      | ow d => cases hs
      | rf d0 =>
        cases hs
        obtain ⟨q, er, e1, _⟩ := F.rf i d0 h
        rw [e] at e1
        have : p = q := by injection e1 with e1; injection e1 with e1; injection e1
        subst this
        exact ⟨p, er, e, r⟩
    · obtain ⟨q, er, eq, rq⟩ := F.rf j d' (cut hij hs)
      have hne : q ≠ p := fun z => hij (F.inj i j s _ p h (cut hij hs) ow rfl e (by rw [eq, z]))
      exact ⟨q, er, eq, rq.move mv fun o' q' => same q o' q' hne⟩
  · have back : ∀ {j : Nat} {t : Sl}, (g.set i (s.to d))[j]? = some t → t.isOw = true → ∃ t0, g[j]? = some t0 ∧ t0.isOw = true := fun {j t} hs o' => by
      by_cases hij : i = j
      · subst hij; exact ⟨s, h, ow⟩
      · exact ⟨t, cut hij hs, o'⟩
    obtain ⟨t1, q1, q2⟩ := back h1 o1
    obtain ⟨t2, q3, q4⟩ := back h2 o2
    exact F.inj j k t1 t2 q q1 q3 q2 q4 e1 e2
  · obtain ⟨o1, e1⟩ := F.tr a o' ea
    exact tr a o1 e1
  · rcases fr a z with z | z
    · exact F.fr a z
    · exact .inr (F.h0 z)
theorem FI.datAt (F : FI A O σ H g) {s : Sl} (h : g[i]? = some s) : ∀ {d : D}, (s = .ow d ∨ s = .rf d) → ∃ p, σ[i]? = some (some (.ref p)) ∧ O p ∧ RpO O H p d := fun {d} hs => by
  rcases hs with rfl | rfl
  · obtain ⟨p, e, ho, _, r⟩ := F.ow i _ h; exact ⟨p, e, ho, r⟩
  · obtain ⟨p, er, e, r⟩ := F.rf i _ h; exact ⟨p, e, F.rO er, r⟩
end
/-- the datum of an own slot -/
def owOf : Option Sl → Option D
  | some (.ow d) => some d
  | some (.rf d) => some d
  | _ => none
theorem owOf_some {o : Option Sl} {d : D} (h : owOf o = some d) : ∃ s, o = some s ∧ (s = .ow d ∨ s = .rf d) ∧ s.isOw = true := by
  unfold owOf at h
  split at h
  · cases h; exact ⟨_, rfl, .inl rfl, rfl⟩
  · cases h; exact ⟨_, rfl, .inr rfl, rfl⟩
  · cases h
/-- a def that changes its first argument in place, the name in slot i -/
def callRC (i : Nat) (φ : Fd) (fs : DnL) : DnS := fun g k => match owOf g[i]? with
  | some _ => fs g fun ds g' => match owOf g'[i]? with
    | some d0 => match φ (d0 :: ds) with
      | .ok s [d1] => k s (stTo g' i d1)
      | _ => .err
    | none => .err
  | none => .err
section
variable {X : Cx} {W : WX} {A : Act} {c : Bool} {a e : Expr} {es : List Expr} {x : Str} {p pos : Pos} {k : Nat} {φ : Fd} {fs : DnL} {i : Nat}
theorem df_callR (C : Cal X A.cls k x es.length.succ [0] φ) (gd : X.A.guards = some []) (hr : Room k X.A) (hg : Gl X x) (tk : Takes X W) (hv : PE X a (tVar i)) (ha : DL true X W A c es fs)
    (hdb : (x == ("__debug__" : Str)) = false := by decide) (he : starEach (a :: es) X.env = (false, eval a X.env) :: starEach es X.env := by rfl) (hpl : (backTo pos (starEach es X.env)).any (·.1) = false := by rfl) :
    DF X W A false (.Call (.Name x p) (a :: es) [] pos) (callRC i φ fs) := by
  obtain ⟨f, fd, ps, G, hm, hk, hb⟩ := C.ex
  refine ⟨(pe_callG G gd hr hg hm hk hb (fun σ => passAt tk σ) (pa_cons hv ha.pa he) hdb he hpl).imp fun σ H Q ⟨O, g, k0, r, F, e0, G0, q⟩ => ?_⟩
  unfold callRC at e0
  cases h0 : owOf g[i]? with
  | none => rw [h0] at e0; exact absurd e0.symm G0.ne
  | some dz =>
    rw [h0] at e0
    obtain ⟨sz, hz, hsz, owz⟩ := owOf_some h0
    obtain ⟨p, ep, hO, rz⟩ := F.datAt hz hsz
    refine ⟨_, ep, O, g, _, r, F, e0, G0, fun vs ds O1 H1 g1 F1 gr1 p1 l1 e1 => ?_⟩
    have p1 : RpAll O1 H1 ds vs := p1
    cases h1 : owOf g1[i]? with
    | none => simp only [h1] at e1; exact absurd e1.symm G0.ne
    | some d0 =>
      simp only [h1] at e1
      obtain ⟨s1, hs1, hsd, ow1⟩ := owOf_some h1
      obtain ⟨p', ep', hO1, r1⟩ := F1.datAt hs1 hsd
      rw [ep] at ep'
      have : p = p' := by injection ep' with z; injection z with z; injection z
      subst this
      refine ⟨O1, d0 :: ds, F1.ot, ⟨by rw [List.length_cons, List.length_cons, p1.length], fun j d hj h => ?_, fun j d hj h => ?_, fun j l q hj hl _ _ => ?_⟩, by rw [List.length_cons, p1.length, l1], ?_⟩
      · cases j with
        | zero => exact absurd (List.mem_singleton_self 0) hj
        | succ j => exact p1.get (by simpa using h)
      · have hj : j = 0 := List.mem_singleton.mp hj
        subst hj
        simp at h; subst h
        exact ⟨p, rfl, hO1, r1⟩
      · exact (List.mem_singleton.mp hj).trans (List.mem_singleton.mp hl).symm
      cases hφ : φ (d0 :: ds) with
      | err => simp only [hφ] at e1; exact G0.ne e1.symm
      | exc cn => simp only [hφ] at e1; exact absurd e1.symm G0.ne
      | ok s rs =>
        match rs, hφ with
        | [], hφ => simp only [hφ] at e1; exact absurd e1.symm G0.ne
        | _ :: _ :: _, hφ => simp only [hφ] at e1; exact absurd e1.symm G0.ne
        | [d1], hφ =>
          simp only [hφ] at e1
          intro v O' H' same tr up fr ot vo ⟨d', ds', p', ed, ep1, rp, _⟩
          cases ed
          have : p = p' := by
            have z : (V.ref p :: vs)[0]? = some (V.ref p') := ep1
            simpa using z
          subst this
          have same' : ∀ a o, H1 a = some o → a ≠ p → H' a = some o := fun a o ea n => same a o ea fun j hj z => by
            have hj : j = 0 := List.mem_singleton.mp hj
            subst hj
            have z : (V.ref p :: vs)[0]? = some (V.ref a) := z
            exact n (by simpa using z.symm)
          have F' := F1.called hs1 ow1 ep same' tr up fr ot rp
          have es : stTo g1 i d1 = g1.set i (s1.to d1) := by unfold stTo; rw [hs1]
          rw [es] at e1
          refine q v s O' H' _ F' ⟨fun a o ea n => ?_, fun z => nomatch z⟩ ?_ e1
          · have w := gr1.1 a o ea n
            exact ⟨same' a o w.1 fun z => w.2 (by rw [z]; exact hO1), fun z => (fr a z).elim w.2 fun z => by rw [w.1] at z; cases z⟩
          · cases s with
            | no => exact vo.elim
            | rf d => exact vo.elim
            | sh d => exact vo
            | ow d =>
              obtain ⟨p2, ep2, ho, n, r⟩ := vo
              refine ⟨p2, ep2, ho, F1.h0 n, r, fun j t hj o z => ?_⟩
              have back : ∃ t0, g1[j]? = some t0 ∧ t0.isOw = true := by
                rw [setIs] at hj
                split at hj
                · rename_i hij; subst hij; exact ⟨s1, hs1, ow1⟩
                · exact ⟨t, hj, o⟩
              obtain ⟨t0, q1, q2⟩ := back
              exact F1.free n j t0 q1 q2 z

/-! ### raise, try -/
/-- raise X('..') -/
def raiseT (cn : Nat) : DnT := fun g _ => .exc cn g
theorem dt_raise {e : Expr} {cv : Value} {cn : Nat} {pos : Pos} (hc : X.calm = true) (tk : Takes X W) (he : PMk X e fun _ H Q => Q cv none H) (hcl : A.cls cn = some cv) : DT X W A (.Raise (some e) none pos) (raiseT cn) :=
  ⟨(ps_raise hc tk he).imp fun D σ H ⟨O, g, k, r, F, e, Eo', q⟩ => Eo'.go.ex cn g e.symm cv σ O H hcl F⟩
/-- try: body, except the class by name: suite. yes: does the clause take an exception of this class -/
def tryT (yes : Nat → Option Bool) (fb fs : DnT) : DnT := fun g k => match fb g .nx with
  | .nx g' => k g'
  | .exc c g' => match yes c with
    | some true => fs g' k
    | some false => .exc c g'
    | none => .err
  | .va _ _ => .err
  | r => r
end
set_option Elab.async false
set_option linter.all false
set_option maxRecDepth 100000
open PySem L2

/-! ### built-in functions of data -/
/-- a value-level rule of a call: on what is read as ds it gives op's -/
def RuC (r : List V → Hp → VK → Prop) (op : List D → Option Sl) : Prop := ∀ (O : Addr → Prop) (H : Hp) (vs : List V) (ds : List D) (s : Sl) (Q : VK), OT O H → RdL O H ds vs → op ds = some s → (∀ v H', Res O H H' v s → Q v H') → r vs H Q
def RuCD (r : List V → Hp → VK → Prop) (op : List D → Option D) : Prop := ∀ (O : Addr → Prop) (H : Hp) (vs : List V) (ds : List D) (s : D) (Q : VK), OT O H → RdL O H ds vs → op ds = some s → (∀ v, Rp O H s v → Q v H) → r vs H Q
def opsF (op : List D → Option Sl) (fs : DnL) : DnS := fun g k => fs g fun ds g' => kop (op ds) g' k
def opsD (op : List D → Option D) (fs : DnL) : DnD := fun g k => fs g fun ds g' => kopD (op ds) g' k
section
variable {X : Cx} {W : WX} {A : Act} {c ca cb m m' : Bool} {e a b : Expr} {es : List Expr} {x : Str} {p pos : Pos} {id : String} {r : List V → Hp → VK → Prop} {fs : DnL}
theorem tCB_F {op : List D → Option Sl} {n : Nat} (hv : RuC r op) {σ : L2.St} {H : Hp} {Q : VK} (h : tG A W c (pF A) (opsF op fs) σ H Q) : tCB r (tGL A W c n (pLM m) fs) σ H Q := by
  obtain ⟨O, g, k, r0, F, e0, G, q⟩ := h
  refine ⟨O, g, _, r0, F, e0, G, fun vs ds O1 H1 g1 F1 gr1 p1 l1 e1 => ?_⟩
  cases ho : op ds with
  | none => simp only [ho, kop] at e1; exact absurd e1.symm G.ne
  | some s =>
    simp only [ho, kop] at e1
    refine hv O1 H1 vs ds s Q F1.ot (pLM_rd p1) ho fun v H' rs => ?_
    obtain ⟨O', F', gr', pf⟩ := rs.pF F1
    exact q v s O' H' g1 F' (by simpa using gr1.trans gr') pf e1
theorem tCB_D {op : List D → Option D} {n : Nat} (hv : RuCD r op) {σ : L2.St} {H : Hp} {Q : VK} (h : tG A W c pS (opsD op fs) σ H Q) : tCB r (tGL A W c n (pLM m) fs) σ H Q := by
  obtain ⟨O, g, k, r0, F, e0, G, q⟩ := h
  refine ⟨O, g, _, r0, F, e0, G, fun vs ds O1 H1 g1 F1 gr1 p1 l1 e1 => ?_⟩
  cases ho : op ds with
  | none => simp only [ho, kopD] at e1; exact absurd e1.symm G.ne
  | some s =>
    simp only [ho, kopD] at e1
    exact hv O1 H1 vs ds s Q F1.ot (pLM_rd p1) ho fun v rs => q v s O1 H1 g1 F1 gr1 rs e1
theorem df_callB {op : List D → Option Sl} (hv : RuC r op) (hc : CallR X (.builtin id) r) (hg : Gl X x) (hm : X.mg x = none) (hvb : bootBuiltins x = some (.builtin id)) (ha : DL m X W A c (e :: es) fs) (hn : x ≠ "__name__" := by decide) (hdb : (x == ("__debug__" : Str)) = false := by decide)
    (he : starEach (e :: es) X.env = (false, eval e X.env) :: starEach es X.env := by rfl) (hpl : (backTo pos (starEach es X.env)).any (·.1) = false := by rfl) : DF X W A c (.Call (.Name x p) (e :: es) [] pos) (opsF op fs) :=
  ⟨(pe_callB hc hg hm hvb ha.pa hn hdb he hpl).imp fun _ _ _ h => tCB_F hv h⟩
theorem ds_callB {op : List D → Option D} (hv : RuCD r op) (hc : CallR X (.builtin id) r) (hg : Gl X x) (hm : X.mg x = none) (hvb : bootBuiltins x = some (.builtin id)) (ha : DL m X W A c (e :: es) fs) (hn : x ≠ "__name__" := by decide) (hdb : (x == ("__debug__" : Str)) = false := by decide)
    (he : starEach (e :: es) X.env = (false, eval e X.env) :: starEach es X.env := by rfl) (hpl : (backTo pos (starEach es X.env)).any (·.1) = false := by rfl) : DS X W A c (.Call (.Name x p) (e :: es) [] pos) (opsD op fs) :=
  ⟨(pe_callB hc hg hm hvb ha.pa hn hdb he hpl).imp fun _ _ _ h => tCB_D hv h⟩
theorem df_callTy {op : List D → Option Sl} (hv : RuC r op) (hc : CallR X (.type id) r) (hg : Gl X x) (hm : X.mg x = none) (hvb : bootBuiltins x = some (.type id)) (ha : DL m X W A c (e :: es) fs) (hn : x ≠ "__name__" := by decide) (hdb : (x == ("__debug__" : Str)) = false := by decide)
    (he : starEach (e :: es) X.env = (false, eval e X.env) :: starEach es X.env := by rfl) (hpl : (backTo pos (starEach es X.env)).any (·.1) = false := by rfl) : DF X W A c (.Call (.Name x p) (e :: es) [] pos) (opsF op fs) :=
  ⟨(pe_callTy hc hg hm hvb ha.pa hn hdb he hpl).imp fun _ _ _ h => tCB_F hv h⟩
theorem ds_callTy {op : List D → Option D} (hv : RuCD r op) (hc : CallR X (.type id) r) (hg : Gl X x) (hm : X.mg x = none) (hvb : bootBuiltins x = some (.type id)) (ha : DL m X W A c (e :: es) fs) (hn : x ≠ "__name__" := by decide) (hdb : (x == ("__debug__" : Str)) = false := by decide)
    (he : starEach (e :: es) X.env = (false, eval e X.env) :: starEach es X.env := by rfl) (hpl : (backTo pos (starEach es X.env)).any (·.1) = false := by rfl) : DS X W A c (.Call (.Name x p) (e :: es) [] pos) (opsD op fs) :=
  ⟨(pe_callTy hc hg hm hvb ha.pa hn hdb he hpl).imp fun _ _ _ h => tCB_D hv h⟩

theorem rdl1 {O : Addr → Prop} {H : Hp} {d : D} {vs : List V} (h : RdL O H [d] vs) : ∃ v, vs = [v] ∧ RdD O H d v := by
  obtain ⟨v, ws, rfl, r, e⟩ := h
  cases (show ws = [] from e)
  exact ⟨v, rfl, r⟩
theorem rdl2 {O : Addr → Prop} {H : Hp} {d d' : D} {vs : List V} (h : RdL O H [d, d'] vs) : ∃ v w, vs = [v, w] ∧ RdD O H d v ∧ RdD O H d' w := by
  obtain ⟨v, ws, rfl, r, h⟩ := h
  obtain ⟨w, rfl, r'⟩ := rdl1 h
  exact ⟨v, w, rfl, r, r'⟩

/-- len -/
def lenD : List D → Option D
  | [.str z] => if z.length ≤ sizeLine then some (.int z.length) else none
  | [.list ds] => some (.int ds.length)
  | [.tuple ds] => some (.int ds.length)
  | _ => none
theorem ru_len : RuCD (fun xs H Q => ∃ x n, xs = [x] ∧ LenV X.K x H n ∧ Q (.int n) H) lenD := by
  intro O H vs ds s Q ot rd ho hQ
  unfold lenD at ho
  split at ho
  · split at ho
    · rename_i hz
      cases ho
      obtain ⟨v, rfl, r⟩ := rdl1 rd
      exact ⟨v, _, rfl, by rw [rd_str r]; exact ⟨hz, rfl⟩, hQ _ rfl⟩
    · cases ho
  · cases ho
    obtain ⟨v, rfl, r⟩ := rdl1 rd
    obtain ⟨a, xs, rfl, sq, q, _⟩ := rd_lst (K := X.K) r
    exact ⟨_, _, rfl, .inl ⟨xs, sq, rfl⟩, by rw [q.length]; exact hQ _ rfl⟩
  · cases ho
    obtain ⟨v, rfl, r⟩ := rdl1 rd
    obtain ⟨a, xs, rfl, sq, q, _, _⟩ := rd_tup (K := X.K) r
    exact ⟨_, _, rfl, .inr ⟨xs, sq, rfl⟩, by rw [q.length]; exact hQ _ rfl⟩
  · cases ho
/-- int -/
def intD : List D → Option D
  | [.int i] => some (.int i)
  | [.bool b] => some (.int (if b then 1 else 0))
  | _ => none
theorem ru_int : RuCD (fun xs H Q => (∃ i, xs = [.int i] ∧ Q (.int i) H) ∨ ∃ k, xs = [.bl k] ∧ Q (.int (if k then 1 else 0)) H) intD := by
  intro O H vs ds s Q ot rd ho hQ
  unfold intD at ho
  split at ho
  · cases ho
    obtain ⟨v, rfl, r⟩ := rdl1 rd
    exact .inl ⟨_, by rw [rd_int r], hQ _ rfl⟩
  · cases ho
    obtain ⟨v, rfl, r⟩ := rdl1 rd
    exact .inr ⟨_, by rw [rd_bl r], hQ _ rfl⟩
  · cases ho
/-- str of a whole number, a text, None, a bool -/
def strD : List D → Option D
  | [.int i] => if i.natAbs.log2 < 1920 then some (.str (toString i)) else none
  | [.str x] => some (.str x)
  | [.none] => some (.str "None")
  | [.bool b] => some (.str (if b then "True" else "False"))
  | _ => none
def rStrX : List V → Hp → VK → Prop := fun xs H Q => (∃ i, xs = [.int i] ∧ i.natAbs.log2 < 1920 ∧ Q (.str (toString i)) H) ∨ (∃ a, xs = [.str a] ∧ Q (.str a) H) ∨ (xs = [.non] ∧ Q (.str "None") H) ∨ ∃ b : Bool, xs = [.bl b] ∧ Q (.str (if b then "True" else "False")) H
theorem call_strX : CallR X (.type "str") rStrX := by
  intro pins s σ H xs us Q I r h
  rcases h with h | h | ⟨rfl, q⟩ | ⟨b, rfl, q⟩
  · exact call_str_int pins s σ H xs us Q I r h
  · exact SkE.call_str_str pins s σ H xs us Q I r h
  · obtain ⟨u, rfl, r1⟩ := vals1 r
    cases (show u = Value.none from r1)
    exact PySem.P.str_of_none ⟨.str _, H, I.tok _, ⟨_, rfl⟩, q⟩
  · obtain ⟨u, rfl, r1⟩ := vals1 r
    cases (show u = Value.bool b from r1)
    exact PySem.P.str_of_bool ⟨.str _, H, I.tok _, ⟨_, rfl⟩, q⟩
theorem ru_str : RuCD rStrX strD := by
  intro O H vs ds s Q ot rd ho hQ
  unfold strD at ho
  split at ho
  · split at ho
    · rename_i hz
      cases ho
      obtain ⟨v, rfl, r⟩ := rdl1 rd
      exact .inl ⟨_, by rw [rd_int r], hz, hQ _ rfl⟩
    · cases ho
  · cases ho
    obtain ⟨v, rfl, r⟩ := rdl1 rd
    exact .inr (.inl ⟨_, by rw [rd_str r], hQ _ rfl⟩)
  · cases ho
    obtain ⟨v, rfl, r⟩ := rdl1 rd
    exact .inr (.inr (.inl ⟨by rw [rd_non r], hQ _ rfl⟩))
  · cases ho
    obtain ⟨v, rfl, r⟩ := rdl1 rd
    exact .inr (.inr (.inr ⟨_, by rw [rd_bl r], hQ _ rfl⟩))
  · cases ho
/-- list of a list, a tuple: a new one -/
def listF : List D → Option Sl
  | [.list ds] => some (.ow (.list ds))
  | [.tuple ds] => some (.ow (.list ds))
  | _ => none
theorem ru_listOf : RuC (fun xs H Q => ∃ p ys, xs = [.ref p] ∧ (SqL X.K H p ys ∨ SqT X.K H p ys) ∧ ∀ l, H l = none → Q (.ref l) (upd H l (.lst ys))) listF := by
  intro O H vs ds s Q ot rd ho hQ
  unfold listF at ho
  split at ho
  · cases ho
    obtain ⟨v, rfl, r⟩ := rdl1 rd
    obtain ⟨a, xs, rfl, sq, q, _⟩ := rd_lst (K := X.K) r
    exact ⟨a, xs, rfl, .inl sq, fun l n => hQ _ _ (res_lst n q)⟩
  · cases ho
    obtain ⟨v, rfl, r⟩ := rdl1 rd
    obtain ⟨a, xs, rfl, sq, q, _, _⟩ := rd_tup (K := X.K) r
    exact ⟨a, xs, rfl, .inr sq, fun l n => hQ _ _ (res_lst n q)⟩
  · cases ho
/-- tuple of a list, a tuple -/
def tupD : List D → Option D
  | [.list ds] => some (.tuple ds)
  | [.tuple ds] => some (.tuple ds)
  | _ => none
theorem ru_tupOf : RuC (fun xs H Q => ∃ p ys, xs = [.ref p] ∧ ((SqL X.K H p ys ∧ ∀ l, H l = none → Q (.ref l) (upd H l (.tup ys))) ∨ (SqT X.K H p ys ∧ Q (.ref p) H))) (fun ds => (tupD ds).map .sh) := by
  intro O H vs ds s Q ot rd ho hQ
  have ho : (tupD ds).map .sh = some s := ho
  unfold tupD at ho
  split at ho
  · cases ho
    obtain ⟨v, rfl, r⟩ := rdl1 rd
    obtain ⟨a, xs, rfl, sq, q, _⟩ := rd_lst (K := X.K) r
    exact ⟨a, xs, rfl, .inl ⟨sq, fun l n => hQ _ _ (res_tup ot n q)⟩⟩
  · cases ho
    obtain ⟨v, rfl, r⟩ := rdl1 rd
    obtain ⟨a, xs, rfl, sq, q, nO, rr⟩ := rd_tup (K := X.K) r
    exact ⟨a, xs, rfl, .inr ⟨sq, hQ _ _ (res_sh ⟨a, xs, rfl, nO, rr, q⟩)⟩⟩
  · cases ho
/-- from a rule that may be new to one that is not an own one -/
theorem DF.d {op : List D → Option D} (h : DF X W A c e (opsF (fun ds => (op ds).map .sh) fs)) : DS X W A c e (opsD op fs) := by
  have hs := h.s
  have : fz (opsF (fun ds => (op ds).map .sh) fs) = opsD op fs := by
    funext g k
    unfold fz opsF opsD
    congr 1
    funext ds g'
    show kop ((op ds).map .sh) g' (kfz k) = kopD (op ds) g' k
    cases op ds <;> rfl
  rw [this] at hs
  exact hs

/-! ### isinstance -/
def instOf (T : String) : D → Bool
  | .none => T == "NoneType"
  | .bool _ => T == "bool" || T == "int"
  | .int _ => T == "int"
  | .str _ => T == "str"
  | .list _ => T == "list"
  | .tuple _ => T == "tuple"
  | .dict _ => T == "dict"
def tyName : D → String
  | .none => "NoneType"
  | .bool _ => "bool"
  | .int _ => "int"
  | .str _ => "str"
  | .list _ => "list"
  | .tuple _ => "tuple"
  | .dict _ => "dict"
theorem tyx_of {K : PySem.W.Frag} {O : Addr → Prop} {H : Hp} {d : D} {v : V} (h : RdD O H d v) : TyX K H v (.type (tyName d)) := by
  cases d with
  | none => rw [rd_non h]; exact .base .non
  | bool b => rw [rd_bl h]; exact .base (.bl b)
  | int i => rw [rd_int h]; exact .base (.int i)
  | str x => rw [rd_str h]; exact .base (.str x)
  | list ds =>
    obtain ⟨a, xs, rfl, _, _, r⟩ := rd_lst (K := K) h
    rcases r with r | ⟨o, r⟩
    · exact .base (.lst r)
    · exact .base (.frz r)
  | tuple ds =>
    obtain ⟨a, xs, rfl, _, _, _, r⟩ := rd_tup (K := K) h
    rcases r with r | ⟨o, r⟩
    · exact .base (.tup r)
    · exact .fTuple r
  | dict kvs =>
    have own : ∀ {a : Addr} {ks : List D} {xs : List V}, DcAt H a ks xs → TyX K H (.ref a) (.type "dict") := fun {a ks xs} h => by
      rcases h with ⟨es, r, _⟩ | ⟨es, r, _⟩
      · rcases r with r | ⟨o, r⟩
        · exact .base (.dK r)
        · exact .fDict r
      · exact .base (.dT r)
    rcases h with ⟨a, xs, rfl, _, r, _⟩ | ⟨p, rfl, xs, r, _⟩
    · exact own r
    · rcases r with ⟨es, r, _⟩ | ⟨es, r, _⟩
      · exact .base (.dK r)
      · exact .base (.dT r)
/-- a type that is asked for -/
def okTy (T : String) : Bool := T == "int" || T == "bool" || T == "str" || T == "list" || T == "tuple" || T == "dict"
theorem kit_data {T : String} (h : okTy T = true) (d : D) : kitB (tyName d) T = some (instOf T d) := by
  have : T = "int" ∨ T = "bool" ∨ T = "str" ∨ T = "list" ∨ T = "tuple" ∨ T = "dict" := by
    unfold okTy at h
    simp only [Bool.or_eq_true, beq_iff_eq] at h
    rcases h with ((((h | h) | h) | h) | h) | h
    · exact .inl h
    · exact .inr (.inl h)
    · exact .inr (.inr (.inl h))
    · exact .inr (.inr (.inr (.inl h)))
    · exact .inr (.inr (.inr (.inr (.inl h))))
    · exact .inr (.inr (.inr (.inr (.inr h))))
  rcases this with rfl | rfl | rfl | rfl | rfl | rfl <;> cases d <;> (show kitB _ _ = some _) <;> (simp only [tyName, instOf]; decide +kernel)
def instAny (Ts : List String) (d : D) : Bool := Ts.any fun T => instOf T d
def isiC (Ts : List String) (f : DnD) : DnD := fun g k => f g fun d g' => k (.bool (instAny Ts d)) g'
/-- isinstance(a, T) -/
theorem ds_isi {T : String} {y : Str} {py : Pos} {f : DnD} (hg : Gl X "isinstance") (hm : X.mg "isinstance" = none) (hgt : Gl X y) (hmt : X.mg y = none) (hvt : bootBuiltins y = some (.type T)) (ok : okTy T = true) (ha : DM m X W A c a f)
    (hyn : y ≠ "__name__" := by decide) (hyd : (y == ("__debug__" : Str)) = false := by decide)
    (he : starEach [a, .Name y py] X.env = (false, eval a X.env) :: starEach [.Name y py] X.env := by rfl) (he2 : starEach [.Name y py] X.env = (false, eval (.Name y py) X.env) :: starEach [] X.env := by rfl) (hpl : (backTo pos (starEach [.Name y py] X.env)).any (·.1) = false := by rfl) :
    DS X W A c (.Call (.Name "isinstance" p) [a, .Name y py] [] pos) (isiC [T] f) :=
  ⟨(pe_callB call_isi hg hm PyProof.Rows.boot_isinstance (pa_cons ha.pe (pa_cons (pe_bltn (v := .ty T) hgt hmt hvt rfl hyn hyd) pa_nil he2) he) (by decide) (by decide) he hpl).imp fun σ H Q h => by
    obtain ⟨O, g, k, r0, F, e0, G, q⟩ := h
    refine ⟨O, g, _, r0, F, e0, G, fun v d O1 H1 g1 F1 gr1 p1 e1 => ?_⟩
    exact ⟨v, .ty T, _, .type T, instOf T d, rfl, .ty T, tyx_of (pM_rd p1), kit_ty (kit_data ok d), q _ (.bool (instOf T d)) O1 H1 g1 F1 gr1 rfl (by rw [← e1]; simp [instAny])⟩⟩
theorem kit_any {K : PySem.W.Frag} {d : D} : ∀ {Ts : List String}, Ts.all okTy = true → PySem.W.kitAny K (.type (tyName d)) (Ts.map .type) = some (instAny Ts d)
  | [], _ => kitAny_nil
  | T :: Ts, h => by
    rw [List.all_cons, Bool.and_eq_true] at h
    have h1 := kit_ty (K := K) (kit_data h.1 d)
    have h2 := kit_any (K := K) (d := d) h.2
    refine kitAny_cons h1 (fun hb => ?_) fun hb => ?_
    · rw [h2]; simp [instAny, hb]
    · simp [instAny, hb]
/-- isinstance(a, (S, T)) -/
theorem ds_isi2 {S T : String} {y z : Str} {py pz pt : Pos} {j} {f : DnD} (hg : Gl X "isinstance") (hm : X.mg "isinstance" = none) (hgy : Gl X y) (hmy : X.mg y = none) (hvy : bootBuiltins y = some (.type S)) (hgz : Gl X z) (hmz : X.mg z = none) (hvz : bootBuiltins z = some (.type T)) (ok : [S, T].all okTy = true) (ha : DM m X W A c a f)
    (hyn : y ≠ "__name__" := by decide) (hyd : (y == ("__debug__" : Str)) = false := by decide) (hzn : z ≠ "__name__" := by decide) (hzd : (z == ("__debug__" : Str)) = false := by decide)
    (he : starEach [a, .Tuple [.Name y py, .Name z pz] j pt] X.env = (false, eval a X.env) :: starEach [.Tuple [.Name y py, .Name z pz] j pt] X.env := by rfl)
    (he2 : starEach [.Tuple [.Name y py, .Name z pz] j pt] X.env = (false, eval (.Tuple [.Name y py, .Name z pz] j pt) X.env) :: starEach [] X.env := by rfl)
    (he3 : starEach [.Name y py, .Name z pz] X.env = (false, eval (.Name y py) X.env) :: starEach [.Name z pz] X.env := by rfl) (he4 : starEach [.Name z pz] X.env = (false, eval (.Name z pz) X.env) :: starEach [] X.env := by rfl)
    (hpl : (backTo pos (starEach [.Tuple [.Name y py, .Name z pz] j pt] X.env)).any (·.1) = false := by rfl) :
    DS X W A c (.Call (.Name "isinstance" p) [a, .Tuple [.Name y py, .Name z pz] j pt] [] pos) (isiC [S, T] f) :=
  ⟨(pe_callB call_isiT hg hm PyProof.Rows.boot_isinstance (pa_cons ha.pe (pa_cons (pe_tup (pa_cons (pe_bltn (v := .ty S) hgy hmy hvy rfl hyn hyd) (pa_cons (pe_bltn (v := .ty T) hgz hmz hvz rfl hzn hzd) pa_nil he4) he3)) pa_nil he2) he) (by decide) (by decide) he hpl).imp fun σ H Q h => by
    obtain ⟨O, g, k, r0, F, e0, G, q⟩ := h
    refine ⟨O, g, _, r0, F, e0, G, fun v d O1 H1 g1 F1 gr1 p1 e1 => ?_⟩
    refine ⟨small1000 (show 2 ≤ 1000 by decide) |> Nat.le_of_lt, fun tp n => ?_⟩
    have F2 : FI A O1 σ (upd H1 tp (.tup [.ty S, .ty T])) g1 := F1.new n
    have gr2 : Gr true O1 H1 O1 (upd H1 tp (.tup [.ty S, .ty T])) := Gr.new n fun _ h => .inl h
    refine ⟨v, tp, _, _, [.type S, .type T], instAny [S, T] d, rfl, upd_same, .cons (.ty S) (.cons (.ty T) .nil), tyx_of (gr2.rd (pM_rd p1)), kit_any ok, q _ (.bool (instAny [S, T] d)) O1 _ g1 F2 (by simpa using gr1.trans gr2) rfl e1⟩⟩
end
set_option Elab.async false
set_option linter.all false
set_option maxRecDepth 100000
open PySem L2

section
variable {X : Cx} {W : WX} {A : Act} {c ca cb cd m m' : Bool} {e a b : Expr} {es : List Expr} {x : Str} {p pos : Pos}

/-! ### a[i] -/
def atS (z : Str) (i : Int) : Option D := if z.length ≤ sizeLine then (atI z.cps.toList i).map fun ch => .str ⟨#[ch]⟩ else none
def ixD : D → D → Option D
  | .list ds, .int i => atI ds i
  | .tuple ds, .int i => atI ds i
  | .str z, .int i => atS z i
  | _, _ => none
theorem RpAll.atI {O : Addr → Prop} {H : Hp} {ds : List D} {xs : List V} {i : Int} {d : D} (h : RpAll O H ds xs) (e : L2.atI ds i = some d) : ∃ v, L2.atI xs i = some v ∧ Rp O H d v := by
  unfold L2.atI at e ⊢
  rw [h.length]
  cases hj : ixN ds.length i with
  | none => rw [hj] at e; cases e
  | some j =>
    rw [hj] at e
    obtain ⟨v, h1, h2⟩ := h.get (i := j) e
    exact ⟨v, h1, h2⟩
theorem ru_ix : Ru2D (rIx X.K) ixD := by
  intro O H x y d e s Q ot rx ry ho hQ
  unfold ixD at ho
  split at ho
  · obtain ⟨a, xs, rfl, sq, q, _⟩ := rd_lst (K := X.K) rx
    obtain ⟨v, h1, h2⟩ := q.atI ho
    exact .inl ⟨a, xs, _, v, rfl, rd_int ry, sq, h1, hQ v h2⟩
  · obtain ⟨a, xs, rfl, sq, q, _, _⟩ := rd_tup (K := X.K) rx
    obtain ⟨v, h1, h2⟩ := q.atI ho
    exact .inr (.inl ⟨a, xs, _, v, rfl, rd_int ry, sq, h1, hQ v h2⟩)
  · unfold atS at ho
    split at ho
    · rename_i z i hz
      cases hc : L2.atI z.cps.toList i with
      | none => rw [hc] at ho; cases ho
      | some ch =>
        rw [hc] at ho
        cases ho
        exact .inr (.inr ⟨_, _, ch, rd_str rx, rd_int ry, hz, hc, hQ _ rfl⟩)
    · cases ho
  · cases ho

/-! ### a[lo:hi] -/
abbrev DnO := Gam → (Option Int → Gam → R) → R
def tGO (A : Act) (W : WX) (c : Bool) (f : DnO) : TO := fun σ H Q =>
  ∃ (O : Addr → Prop) (g : Gam) (k : Option Int → Gam → R) (r : R), FI A O σ H g ∧ f g k = r ∧ Go A W r ∧
    ∀ (o : Option Int) (O' : Addr → Prop) (H' : Hp) (g' : Gam), FI A O' σ H' g' → Gr c O H O' H' → k o g' = r → Q o H'
structure DO (X : Cx) (W : WX) (A : Act) (c : Bool) (e : Option Expr) (f : DnO) : Prop where
  po : PO X e (tGO A W c f)
theorem _root_.L2.PO.imp {e : Option Expr} {t t' : TO} (h : PO X e t) (w : ∀ σ H Q, t' σ H Q → t σ H Q) : PO X e t' := ⟨fun pins s σ H Q I q => h.run pins s σ H Q I (w σ H Q q)⟩
def noO : DnO := fun g k => k none g
def atO (f : DnD) : DnO := fun g k => f g fun d g' => match d with
  | .int i => k (some i) g'
  | _ => .err
theorem do_none : DO X W A true none noO := ⟨po_none.imp fun σ H Q ⟨O, g, k, r, F, e, G, q⟩ => q none O H g F Gr.refl e⟩
theorem do_some {f : DnD} (h : DM m X W A c e f) : DO X W A c (some e) (atO f) := ⟨(po_some h.pe).imp fun σ H Q ⟨O, g, k, r, F, e0, G, q⟩ => by
  refine ⟨O, g, _, r, F, e0, G, fun v d O1 H1 g1 F1 gr1 p1 e1 => ?_⟩
  cases d with
  | int i => exact ⟨i, rd_int (pM_rd p1), q (some i) O1 H1 g1 F1 gr1 e1⟩
  | _ => exact absurd e1.symm G.ne⟩
/-- the items of a cut -/
def cutL {α : Type} (xs : List α) (lo hi : Option Int) : List α := (xs.drop (HT.sIx xs.length 0 lo)).take (HT.sIx xs.length xs.length hi - HT.sIx xs.length 0 lo)
def cutF : D → Option Int → Option Int → Option Sl
  | .list ds, lo, hi => some (.ow (.list (cutL ds lo hi)))
  | .tuple ds, lo, hi => some (.sh (.tuple (cutL ds lo hi)))
  | .str z, lo, hi => if z.length ≤ sizeLine then some (.sh (.str (cutS z lo hi))) else none
  | _, _, _ => none
def slcC (fa : DnD) (fl fh : DnO) : DnS := fun g k => fa g fun x g1 => fl g1 fun lo g2 => fh g2 fun hi g3 => kop (cutF x lo hi) g3 k
theorem RpAll.cut {O : Addr → Prop} {H : Hp} {ds : List D} {xs : List V} (h : RpAll O H ds xs) (lo hi : Option Int) : RpAll O H (cutL ds lo hi) (cutV xs lo hi) := by
  have := h.sub (fun l => cutL l lo hi) fun g l => by unfold cutL; rw [List.length_map, ← List.map_drop, ← List.map_take]
  exact this
theorem df_slc {lo hi : Option Expr} {fa : DnD} {fl fh : DnO} {p2 : Pos} (ha : DM m X W A c a fa) (hl : DO X W A ca lo fl) (hh : DO X W A cb hi fh) (hm : (m || (ca && cb)) = true := by rfl) : DF X W A (c && (ca && cb)) (.Subscript a (.Slice lo hi none p2) pos) (slcC fa fl fh) :=
  ⟨(pe_slice (sl_list.or (sl_tupA.or sl_str)) ha.pe hl.po hh.po).imp fun σ H Q ⟨O, g, k, r0, F, e0, G, q⟩ => by
    refine ⟨O, g, _, r0, F, e0, G, fun x d O1 H1 g1 F1 gr1 p1 e1 => ?_⟩
    refine ⟨O1, g1, _, r0, F1, e1, G, fun lo O2 H2 g2 F2 gr2 e2 => ?_⟩
    refine ⟨O2, g2, _, r0, F2, e2, G, fun hi O3 H3 g3 F3 gr3 e3 => ?_⟩
    have rx : RdD O3 H3 d x := pM_rd (σ := σ) (g := g3) (pM_keep hm p1 (gr2.trans gr3))
    have gr : Gr (c && (ca && cb)) O H O3 H3 := gr1.trans (gr2.trans gr3)
    have fin : ∀ s, cutF d lo hi = some s → ∀ v H', Res O3 H3 H' v s → Q v H' := fun s hs v H' rs => by
      simp only [hs, kop] at e3
      obtain ⟨O', F', gr', pf⟩ := rs.pF F3
      exact q v s O' H' g3 F' (by simpa using gr.trans gr') pf e3
    cases d with
    | list ds =>
      obtain ⟨a, xs, rfl, sq, qa, _⟩ := rd_lst (K := X.K) rx
      exact .inl ⟨a, xs, rfl, sq, fun p n => fin _ rfl _ _ (res_lst n (qa.cut lo hi))⟩
    | tuple ds =>
      obtain ⟨a, xs, rfl, sq, qa, nO, rr⟩ := rd_tup (K := X.K) rx
      refine .inr (.inl ⟨a, xs, rfl, sq, fun hw => fin _ rfl _ _ (res_sh ⟨a, xs, rfl, nO, rr, ?_⟩), fun _ p n => fin _ rfl _ _ (res_tup F3.ot n (qa.cut lo hi))⟩)
      have e : cutL ds lo hi = ds := by
        unfold cutL
        rw [← qa.length, hw.1, hw.2, List.drop_zero, Nat.sub_zero, qa.length, List.take_length]
      rw [e]; exact qa
    | str z =>
      by_cases hz : z.length ≤ sizeLine
      · exact .inr (.inr ⟨z, rd_str rx, hz, fin (.sh (.str (cutS z lo hi))) (show (if z.length ≤ sizeLine then some (Sl.sh (.str (cutS z lo hi))) else none) = _ from if_pos hz) _ _ (res_sh rfl)⟩)
      · have : cutF (.str z) lo hi = none := (show (if z.length ≤ sizeLine then some (Sl.sh (.str (cutS z lo hi))) else none) = _ from if_neg hz)
        simp only [this, kop] at e3; exact absurd e3.symm G.ne
    | _ => exact absurd e3.symm G.ne⟩

/-! ### in, not in -/
def inB (d e : D) : Option Bool := match e with
  | .list ds => if (cmpOk d && cmpOk (.list ds)) = true then some (ds.any fun z => PyData.eqv z d) else none
  | .tuple ds => if (cmpOk d && cmpOk (.tuple ds)) = true then some (ds.any fun z => PyData.eqv z d) else none
  | _ => none
def niB (d e : D) : Option Bool := (inB d e).map not
theorem room_min {d : D} {u n : Nat} (h : SeqAt.shaped d = true) (hu : u + 65 < cLine) : u + 1 + min n d.depth < cLine := by
  have h : (d.canLay0 && decide (d.depth ≤ 64)) = true := h
  have h2 := of_decide_eq_true (Bool.and_eq_true_iff.mp h).2
  have := Nat.min_le_right n d.depth
  omega
def rInX (K : PySem.W.Frag) (neg : Bool) : R2 := fun x y H Q => ∃ d ds, Dp K H x d ∧ (Dp K H y (.list ds) ∨ Dp K H y (.tuple ds)) ∧ SeqAt.shaped d = true ∧ PyData.canLayAll0 ds = true ∧ Q (.bl (if neg then !(ds.any fun z => PyData.eqv z d) else (ds.any fun z => PyData.eqv z d))) H
theorem op_inX (hu : X.A.units + 65 < cLine) : OpR X (compareOp .In) (rInX X.K false) := by
  intro pins s σ H x y v u Q I rx ry h
  obtain ⟨d, ds, hd, he, sd, se, q⟩ := h
  obtain ⟨as, r1⟩ := Dp.reads I d x v hd rx
  rcases he with he | he
  · obtain ⟨bs, r2⟩ := Dp.reads I (.list ds) y u he ry
    exact SeqAt.in_list_reads r2 r1 se (SeqAt.canLay_of_shaped sd) (room_min sd hu) ⟨.bl _, H, I, rfl, q⟩
  · obtain ⟨bs, r2⟩ := Dp.reads I (.tuple ds) y u he ry
    exact SeqAt.in_tuple_reads r2 r1 se (SeqAt.canLay_of_shaped sd) (room_min sd hu) ⟨.bl _, H, I, rfl, q⟩
theorem op_niX (hu : X.A.units + 65 < cLine) : OpR X (compareOp .NotIn) (rInX X.K true) := by
  intro pins s σ H x y v u Q I rx ry h
  obtain ⟨d, ds, hd, he, sd, se, q⟩ := h
  obtain ⟨as, r1⟩ := Dp.reads I d x v hd rx
  rcases he with he | he
  · obtain ⟨bs, r2⟩ := Dp.reads I (.list ds) y u he ry
    exact SeqAt.notIn_list_reads r2 r1 se (SeqAt.canLay_of_shaped sd) (room_min sd hu) ⟨.bl _, H, I, rfl, q⟩
  · obtain ⟨bs, r2⟩ := Dp.reads I (.tuple ds) y u he ry
    exact SeqAt.notIn_tuple_reads r2 r1 se (SeqAt.canLay_of_shaped sd) (room_min sd hu) ⟨.bl _, H, I, rfl, q⟩
theorem ru_inX {K : PySem.W.Frag} {neg : Bool} : Ru2D (rInX K neg) (opBD fun d e => (inB d e).map fun b => if neg then !b else b) := by
  intro O H x y d e s Q ot rx ry ho hQ
  have ho : ((inB d e).map fun b => if neg = true then !b else b).map PyData.bool = some s := ho
  cases hb : inB d e with
  | none => rw [hb] at ho; cases ho
  | some bb =>
    rw [hb] at ho
    cases ho
    unfold inB at hb
    split at hb
    · rename_i ds
      split at hb
      · rename_i hc
        obtain ⟨h1, h2⟩ := Bool.and_eq_true_iff.mp hc
        cases hb
        exact ⟨d, ds, rx.dp (cmpOk_dict h1), .inl (ry.dp (cmpOk_dict h2)), h1, SeqAt.canLay_of_shaped h2, hQ _ rfl⟩
      · cases hb
    · rename_i ds
      split at hb
      · rename_i hc
        obtain ⟨h1, h2⟩ := Bool.and_eq_true_iff.mp hc
        cases hb
        exact ⟨d, ds, rx.dp (cmpOk_dict h1), .inr (ry.dp (cmpOk_dict h2)), h1, SeqAt.canLay_of_shaped h2, hQ _ rfl⟩
      · cases hb
    · cases hb
theorem ru_in {K : PySem.W.Frag} : Ru2D (rInX K false) (opBD inB) := by
  have h := ru_inX (K := K) (neg := false)
  have e : (fun d e => (inB d e).map fun b => if false = true then !b else b) = inB := by funext d e; cases inB d e <;> rfl
  rw [e] at h
  exact h
theorem ru_ni {K : PySem.W.Frag} : Ru2D (rInX K true) (opBD niB) := ru_inX (K := K) (neg := true)

/-! ### is, is not: truth values -/
def isBB : D → D → Option Bool
  | .bool x, .bool y => some (decide (x = y))
  | _, _ => none
def noBB : D → D → Option Bool
  | .bool x, .bool y => some (!decide (x = y))
  | _, _ => none
theorem ru_isB : Ru2D rIsB (opBD isBB) := by
  intro O H x y d e s Q ot rx ry ho hQ
  unfold opBD isBB at ho
  split at ho
  · cases ho; exact ⟨_, _, rd_bl rx, rd_bl ry, hQ _ rfl⟩
  · cases ho
theorem ru_noB : Ru2D rNotB (opBD noBB) := by
  intro O H x y d e s Q ot rx ry ho hQ
  unfold opBD noBB at ho
  split at ho
  · cases ho; exact ⟨_, _, rd_bl rx, rd_bl ry, hQ _ rfl⟩
  · cases ho

/-! ### a < b < d -/
def chnB (o1 o2 : D → D → Option Bool) (fa fb fc : DnD) : DnB := fun g k => fa g fun x g1 => fb g1 fun y g2 => match o1 x y with
  | some true => fc g2 fun z g3 => match o2 y z with
    | some s => k s g3
    | none => .err
  | some false => k false g2
  | none => .err
end
set_option Elab.async false
set_option linter.all false
set_option maxRecDepth 100000
open PySem L2

/-! ### a[::-1] -/
section
open PySem.Spec PyProof.Rows
variable {prog : Program} {w : World} {A : Around} {E : Value → Shared → Prop} {s : Shared}
theorem adjust_rev (n : Nat) : Builtin.Slice.sliceAdjust none none (-1) (n : Int) = ((n : Int) - 1, -1) := by
  unfold Builtin.Slice.sliceAdjust
  rfl
theorem places_rev (n : Nat) : Builtin.Slice.slicePlaces ((n : Int) - 1) (-1) (-1) = n := by
  unfold Builtin.Slice.slicePlaces
  have h1 : ¬ ((-1 : Int) > 0) := by omega
  simp only [h1, if_false]
  have h2 : (- -1 : Int) = 1 := by decide
  rw [h2, Int.ediv_one]
  split <;> omega
theorem applied_rev {sl : Addr} {vl vu vs : Value} {n : Nat} {Q : Int × Int × Nat → Shared → Prop} (hs : s.heap.IsSliceOf sl vl vu vs) (pl : IsPart vl none) (pu : IsPart vu none) (ps : IsPart vs (some (-1)))
    (h : Q ((n : Int) - 1, -1, n) s) : wpAny (model prog w) A (Builtin.Slice.sliceApplied (.ref sl) (pure (n : Int))) Q E s := by
  obtain ⟨os, hos, hcs, hds⟩ := id hs
  unfold Builtin.Slice.sliceApplied Builtin.Slice.sliceFields
  refine wpAny_bind (wpAny_bind (wpAny_field hos hds (x := vl) rfl (wpAny_bind (wpAny_field hos hds (x := vu) rfl (wpAny_bind (wpAny_field hos hds (x := vs) rfl (wpAny_pure ?_)))))))
  refine wpAny_bind (HT.slicePart_ ps ?_)
  show wpAny _ _ (if ((-1 : Int) == 0) = true then _ else _) _ _ s
  rw [if_neg (by decide)]
  refine wpAny_bind (HT.slicePart_ pl (wpAny_bind (HT.slicePart_ pu (wpAny_bind (wpAny_pure ?_)))))
  show wpAny _ _ (match Builtin.Slice.sliceAdjust none none (-1) (n : Int) with | (lo, hi) => pure (lo, (-1 : Int), Builtin.Slice.slicePlaces lo hi (-1))) _ _ s
  rw [adjust_rev n]
  show wpAny _ _ (pure ((n : Int) - 1, (-1 : Int), Builtin.Slice.slicePlaces ((n : Int) - 1) (-1) (-1))) _ _ s
  rw [places_rev]
  exact wpAny_pure h
theorem pick_rev {α : Type} (xs : Array α) : ((List.range xs.size).filterMap fun (m : Nat) => xs[((xs.size : Int) - 1 + (m : Int) * (-1)).toNat]?).toArray = xs.toList.reverse.toArray := by
  have e : (fun (m : Nat) => xs[((xs.size : Int) - 1 + (m : Int) * (-1)).toNat]?) = ((xs[·]?) ∘ fun m => xs.size - 1 - m) := by
    funext m
    show _ = xs[xs.size - 1 - m]?
    congr 1
    omega
  rw [e, ← List.filterMap_map, PySem.W.krv_range, List.filterMap_reverse, PySem.W.krv_all]
theorem getItem_tuple_rev {t sl : Addr} {items : Array Value} {vl vu vs : Value} {Q : Value → Shared → Prop} (ht : IsTup s.heap t items) (hs : s.heap.IsSliceOf sl vl vu vs) (pl : IsPart vl none) (pu : IsPart vu none) (ps : IsPart vs (some (-1)))
    (h : Q (.ref s.heap.objs.size) { s with heap := s.heap.push { cls := .type "tuple", data := .seq items.toList.reverse.toArray } })
    (hsz : items.size ≤ sizeLine) : wpAny (model prog w) A (getItem (.ref t) (.ref sl)) Q E s := by
  have htake : sizeOk (.seq items.toList.reverse.toArray) := by
    show items.toList.reverse.toArray.size ≤ sizeLine
    rw [List.size_toArray, List.length_reverse, Array.length_toList]
    exact hsz
  obtain ⟨os, hos, hcs, hds⟩ := id hs
  have hTs : s.TypeIs (.ref sl) "slice" := ⟨os, hos, hcs⟩
  unfold getItem
  try with_reducible refine wpAny_holding ?_
  first | refine wpAny_bind (wpAny_pure ?_) | skip
  refine wpAny_bind (wpAny_sequenceKey ht.typeIs (by decide) ?_)
  refine wpAny_bind (wpAny_callSpecial?_slot (name := Str.ofString "__getitem__") ht.typeIs PyProof.Rows.slot_tuple_getitem
    (wpAny_call_entry PyProof.Rows.slot_tuple_getitem ht.typeIs entry_tuple_getitem ?_ (args_tuple_getitem _ _)))
  show wpAny _ _ (Builtin.Tuple.tupleItemsOf (.ref t) >>= _) _ _ s
  refine wpAny_bind (tupleItemsOf_ ht ?_)
  refine wpAny_bind (wpAny_typeOf hTs ?_)
  rw [if_pos (by decide)]
  refine wpAny_bind (applied_rev hs pl pu ps ?_)
  have hno : ¬ ((((items.size : Int) - 1) == 0 && (-1 : Int) == 1 && items.size == items.size) = true) := by
    simp
  show wpAny _ _ (if (((items.size : Int) - 1) == 0 && (-1 : Int) == 1 && items.size == items.size) = true then _ else _) _ _ s
  rw [if_neg hno, pick_rev]
  first
    | exact wpAny_bind (m := Builtin.Tuple.tupleExact _) (wpAny_newObj_type (wpAny_pure ⟨_, rfl, wpAny_pure h⟩) htake)
    | exact wpAny_bind (m := Builtin.Tuple.tupleExact _) (wpAny_newObj_type (wpAny_bind (wpAny_pure (wpAny_pure ⟨_, rfl, wpAny_pure h⟩))) htake)
    | exact wpAny_bind (wpAny_bind (m := Builtin.Tuple.tupleExact _) (wpAny_newObj_type (wpAny_pure (wpAny_pure ⟨_, rfl, wpAny_pure h⟩)) htake))
    | exact wpAny_bind (wpAny_bind (m := Builtin.Tuple.tupleExact _) (wpAny_newObj_type (wpAny_pure ⟨_, rfl, wpAny_pure h⟩) htake))
end
/-- a text, turned -/
def revS (z : Str) : Str := ⟨z.cps.toList.reverse.toArray⟩
theorem picked_rev (z : Str) : ((Builtin.Str.strSliceIndices none none (-1) z.length).filterMap (z.cps[·]?)).toArray = z.cps.toList.reverse.toArray := by
  have e : Builtin.Str.strSliceIndices none none (-1) z.length = (List.range z.cps.size).map fun k => z.cps.size - 1 - k := PySem.W.krv_sliceRange z.cps.size
  rw [e, PySem.W.krv_range, List.filterMap_reverse, PySem.W.krv_all]
def tRevA (K : PySem.W.Frag) (te : TE) : TE := fun σ H Q => te σ H fun x H1 => (∃ a xs, x = .ref a ∧ SqL K H1 a xs ∧ ∀ p, H1 p = none → Q (.ref p) (upd H1 p (.lst xs.reverse))) ∨
  (∃ a xs, x = .ref a ∧ SqT K H1 a xs ∧ ∀ p, H1 p = none → Q (.ref p) (upd H1 p (.tup xs.reverse))) ∨ ∃ z, x = .str z ∧ z.length ≤ sizeLine ∧ Q (.str (revS z)) H1
section
open PySem.Spec PyProof.Rows
theorem pe_revA {X : Cx} {e : Expr} {te : TE} {k : Nat} {p1 p2 p3 pos : Pos} (he : PE X e te) : PE X (.Subscript e (.Slice none none (some (.UnaryOp .USub (.Constant (.int 1) k p1) p2)) p3) pos) (tRevA X.K te) := by
  refine ⟨fun pins s σ H Q I h => ?_⟩
  refine Subscript_ (thn (he.run pins s σ H _ I h) fun v s1 ⟨x, H1, I1, r1, q1⟩ => ?_)
  have hst : PO X (some (.UnaryOp .USub (.Constant (.int 1) k p1) p2)) (tPart (tUn (rU fun i => .int (-i)) (tC (.int 1)))) := po_some (pe_un un_neg pe_int)
  refine wpAny_Slice (thn (po_none.run pins s1 σ H1 (fun o H2 => o = none ∧ H2 = H1) I1 ⟨rfl, rfl⟩) fun vl s2 ⟨l, H2, I2, pl, el, e2⟩ => ?_)
  subst el e2
  refine thn (po_none.run pins s2 σ H2 (fun o H3 => o = none ∧ H3 = H2) I2 ⟨rfl, rfl⟩) fun vu s3 ⟨u, H3, I3, pu, eu, e3⟩ => ?_
  subst eu e3
  refine thn (hst.run pins s3 σ H3 (fun o H4 => o = some (-1) ∧ H4 = H3) I3 ⟨1, rfl, -1, rfl, rfl, rfl⟩) fun vs s4 ⟨o, H4, I4, ps, eo, e4⟩ => ?_
  subst eo e4
  have I5 : Inv X pins σ H4 { s4 with heap := s4.heap.push { cls := .type "slice", data := .fields #[vl, vu, vs] } } := I4.kept (t' := s4.toks) fun b ob q => Heap.get?_push_of_some _ q
  rcases q1 with ⟨a, xs, ex, hx, q⟩ | ⟨a, xs, ex, hx, q⟩ | ⟨z, ex, hz, q⟩
  · subst ex
    cases r1
    obtain ⟨its, r, ht, hz⟩ := I5.list hx
    have hlen := r.length
    show wpAny (model X.prog X.w) X.A (subscriptTail e (.Slice none none (some (.UnaryOp .USub (.Constant (.int 1) k p1) p2)) p3) (.ref a) (.ref s4.heap.objs.size)) (EP X pins σ Q) X.xe { s4 with heap := s4.heap.push { cls := .type "slice", data := .fields #[vl, vu, vs] } }
    refine tail_any (ops := [.ref a, .ref s4.heap.objs.size]) ht.isList.typeIs (PySem.slot_list_getitem.lookup) ?_ (by with_unfolding_all rfl)
    refine wpAny_getItem_list_slice ht.isList (Heap.IsSliceOf.new _ vl vu vs) pl pu ps (by decide) ?_ (by rw [List.size_toArray]; omega)
    rw [PySem.W.krv_pick]
    refine ⟨.ref _, _, I5.laid (t' := s4.toks) (o := .lst xs.reverse) (fun b ob q => Heap.get?_push_of_some _ q) (Nat.le_refl _) ?_, rfl, q _ (I5.hok.fresh (Nat.le_refl _))⟩
    exact ⟨by rw [List.length_reverse]; exact hz, _, 0, r.reverse, Heap.get?_push_size _ rfl⟩
  · subst ex
    cases r1
    obtain ⟨its, r, ht, hz⟩ := I5.tuple hx
    have hlen := r.length
    show wpAny (model X.prog X.w) X.A (subscriptTail e (.Slice none none (some (.UnaryOp .USub (.Constant (.int 1) k p1) p2)) p3) (.ref a) (.ref s4.heap.objs.size)) (EP X pins σ Q) X.xe { s4 with heap := s4.heap.push { cls := .type "slice", data := .fields #[vl, vu, vs] } }
    refine tail_any (ops := [.ref a, .ref s4.heap.objs.size]) ht.typeIs (PyProof.Rows.slot_tuple_getitem.lookup) ?_ (by with_unfolding_all rfl)
    refine getItem_tuple_rev ht (Heap.IsSliceOf.new _ vl vu vs) pl pu ps ?_ (by rw [List.size_toArray]; omega)
    refine ⟨.ref _, _, I5.laid (t' := s4.toks) (o := .tup xs.reverse) (fun b ob q => Heap.get?_push_of_some _ q) (Nat.le_refl _) ?_, rfl, q _ (I5.hok.fresh (Nat.le_refl _))⟩
    exact ⟨by rw [List.length_reverse]; exact hz, _, r.reverse, IsTup.new _ _⟩
  · subst ex
    obtain ⟨t, rfl⟩ := r1
    show wpAny (model X.prog X.w) X.A (subscriptTail e (.Slice none none (some (.UnaryOp .USub (.Constant (.int 1) k p1) p2)) p3) (.str z t) (.ref s4.heap.objs.size)) (EP X pins σ Q) X.xe { s4 with heap := s4.heap.push { cls := .type "slice", data := .fields #[vl, vu, vs] } }
    refine tail_any (ops := [.str z t, .ref s4.heap.objs.size]) (typeIs_str _ z t) (PySem.F.slot_str_getitem.lookup) ?_ (by with_unfolding_all rfl)
    obtain ⟨l, e1, e1'⟩ := IsPart.raw pl
    obtain ⟨u, e2, e2'⟩ := IsPart.raw pu
    obtain ⟨st, e3, e3'⟩ := IsPart.raw ps
    obtain ⟨os, hos, hcs, hds⟩ := Heap.IsSliceOf.new s4.heap vl vu vs
    refine wpAny_getItem_str_slice (l := l) (u := u) (st := st) ⟨os, hos, hcs, by rw [hds, e1, e2, e3]⟩ (by rw [e3']; rfl) ?_
    unfold sliceMade slicePicked
    rw [e1', e2', e3']
    show Made.post (if ((-1 : Int) == 1 && (Builtin.Str.strSliceIndices none none (-1) z.length).length == z.length) = true then _ else Made.str ⟨((Builtin.Str.strSliceIndices none none (-1) z.length).filterMap (z.cps[·]?)).toArray⟩) _ _
    rw [if_neg (by simp), picked_rev]
    refine ⟨?_, .str _, H4, I5.tok _, ⟨_, rfl⟩, q⟩
    show z.cps.toList.reverse.toArray.size ≤ sizeLine
    rw [List.size_toArray, List.length_reverse, Array.length_toList]
    exact hz
end
def revF : D → Option Sl
  | .list ds => some (.ow (.list ds.reverse))
  | .tuple ds => some (.sh (.tuple ds.reverse))
  | .str z => if z.length ≤ sizeLine then some (.sh (.str (revS z))) else none
  | _ => none
def unF (op : D → Option Sl) (fa : DnD) : DnS := fun g k => fa g fun x g1 => kop (op x) g1 k
section
variable {X : Cx} {W : WX} {A : Act} {c ca cb cd m m' m2 : Bool} {e a b d : Expr} {es : List Expr} {x : Str} {p pos : Pos}
theorem df_rev {fa : DnD} {k : Nat} {p1 p2 p3 : Pos} (ha : DM m X W A c a fa) : DF X W A c (.Subscript a (.Slice none none (some (.UnaryOp .USub (.Constant (.int 1) k p1) p2)) p3) pos) (unF revF fa) :=
  ⟨(pe_revA ha.pe).imp fun σ H Q ⟨O, g, k, r0, F, e0, G, q⟩ => by
    refine ⟨O, g, _, r0, F, e0, G, fun x d O1 H1 g1 F1 gr1 p1 e1 => ?_⟩
    have rx : RdD O1 H1 d x := pM_rd p1
    have fin : ∀ s, revF d = some s → ∀ v H', Res O1 H1 H' v s → Q v H' := fun s hs v H' rs => by
      simp only [hs, kop] at e1
      obtain ⟨O', F', gr', pf⟩ := rs.pF F1
      exact q v s O' H' g1 F' (by simpa using gr1.trans gr') pf e1
    have rev : ∀ {ds : List D} {xs : List V}, RpAll O1 H1 ds xs → RpAll O1 H1 ds.reverse xs.reverse := fun q => q.sub (fun l => l.reverse) fun g l => by rw [List.map_reverse]
    cases d with
    | list ds =>
      obtain ⟨a, xs, rfl, sq, qa, _⟩ := rd_lst (K := X.K) rx
      exact .inl ⟨a, xs, rfl, sq, fun p n => fin _ rfl _ _ (res_lst n (rev qa))⟩
    | tuple ds =>
      obtain ⟨a, xs, rfl, sq, qa, nO, rr⟩ := rd_tup (K := X.K) rx
      exact .inr (.inl ⟨a, xs, rfl, sq, fun p n => fin _ rfl _ _ (res_tup F1.ot n (rev qa))⟩)
    | str z =>
      by_cases hz : z.length ≤ sizeLine
      · exact .inr (.inr ⟨z, rd_str rx, hz, fin (.sh (.str (revS z))) (show (if z.length ≤ sizeLine then some (Sl.sh (.str (revS z))) else none) = _ from if_pos hz) _ _ (res_sh rfl)⟩)
      · have : revF (.str z) = none := (show (if z.length ≤ sizeLine then some (Sl.sh (.str (revS z))) else none) = _ from if_neg hz)
        simp only [this, kop] at e1; exact absurd e1.symm G.ne
    | _ => exact absurd e1.symm G.ne⟩

/-! ### chains -/
theorem db_chn {op op' : CmpOp} {r r' : R2} {o1 o2 : D → D → Option Bool} {fa fb fc : DnD} (ho : OpR X (compareOp op) r) (hv : Ru2D r (opBD o1)) (ho' : OpR X (compareOp op') r') (hv' : Ru2D r' (opBD o2)) (ha : DM m X W A ca a fa) (hb : DM m' X W A cb b fb) (hd : DM m2 X W A cd d fc)
    (hk : ((m || cb) && (m' || cd)) = true := by rfl) (hm : lastMarks [op, op'] [b, d] = false := by with_unfolding_all rfl) : DB X W A (ca && (cb && cd)) (.Compare a [op, op'] [b, d] pos) (chnB o1 o2 fa fb fc) :=
  ⟨(pt_chain ho ho' ha.pe hb.pe hd.pe hm).imp fun σ H Q ⟨O, g, k, r0, F, e0, G, q⟩ => by
    obtain ⟨k1, k2⟩ := Bool.and_eq_true_iff.mp hk
    refine ⟨O, g, _, r0, F, e0, G, fun x dx O1 H1 g1 F1 gr1 p1 e1 => ?_⟩
    refine ⟨O1, g1, _, r0, F1, e1, G, fun y dy O2 H2 g2 F2 gr2 p2 e2 => ?_⟩
    have rx : RdD O2 H2 dx x := pM_rd (σ := σ) (g := g2) (pM_keep k1 p1 gr2)
    cases h1 : o1 dx dy with
    | none => simp only [h1] at e2; exact absurd e2.symm G.ne
    | some b1 =>
      simp only [h1] at e2
      refine hv O2 H2 x y dx dy (.bool b1) _ F2.ot rx (pM_rd p2) (by unfold opBD; rw [h1]; rfl) fun v rv => ⟨b1, rv, ?_⟩
      cases b1 with
      | false => exact iteF ⟨false, rfl, q false O2 H2 g2 F2 ⟨(gr1.trans gr2).1, fun h => by
          have h := Bool.and_eq_true_iff.mp h
          exact (gr1.2 h.1).trans (gr2.2 (Bool.and_eq_true_iff.mp h.2).1)⟩ e2⟩
      | true =>
        refine iteT ⟨O2, g2, _, r0, F2, e2, G, fun z dz O3 H3 g3 F3 gr3 p3 e3 => ?_⟩
        have ry : RdD O3 H3 dy y := pM_rd (σ := σ) (g := g3) (pM_keep k2 p2 gr3)
        cases h2 : o2 dy dz with
        | none => simp only [h2] at e3; exact absurd e3.symm G.ne
        | some b2 =>
          simp only [h2] at e3
          exact hv' O3 H3 y z dy dz (.bool b2) _ F3.ot ry (pM_rd p3) (by unfold opBD; rw [h2]; rfl) fun v rv => ⟨b2, rv, q b2 O3 H3 g3 F3 (gr1.trans (gr2.trans gr3)) e3⟩⟩

/-! ### sep.join(xs) -/
def strsD : List D → Option (List Str)
  | [] => some []
  | .str x :: ds => (strsD ds).map (x :: ·)
  | _ :: _ => none
def joinD : D → D → Option D
  | .str a, .list ds => (strsD ds).bind fun ys => if (ys.map (·.length)).sum + ys.length * a.length ≤ 16777216 then some (.str (Txt.join a ys)) else none
  | .str a, .tuple ds => (strsD ds).bind fun ys => if (ys.map (·.length)).sum + ys.length * a.length ≤ 16777216 then some (.str (Txt.join a ys)) else none
  | _, _ => none
theorem strs_vals {O : Addr → Prop} {H : Hp} : ∀ {ds : List D} {xs : List V} {ys : List Str}, RpAll O H ds xs → strsD ds = some ys → xs = ys.map V.str
  | [], xs, ys, q, h => by cases h; exact q
  | .str x :: ds, _, ys, ⟨v, vs, e, r, q⟩, h => by
    unfold strsD at h
    cases hs : strsD ds with
    | none => rw [hs] at h; cases h
    | some zs =>
      rw [hs] at h
      cases h
      rw [e, strs_vals q hs, (show v = _ from r)]
      rfl
  | .none :: _, _, _, _, h => by cases h
  | .bool _ :: _, _, _, _, h => by cases h
  | .int _ :: _, _, _, _, h => by cases h
  | .list _ :: _, _, _, _, h => by cases h
  | .tuple _ :: _, _, _, _, h => by cases h
  | .dict _ :: _, _, _, _, h => by cases h
def joinC (fa fb : DnD) : DnD := fun g k => fa g fun x g1 => match x with
  | .str _ => fb g1 fun y g2 => kopD (joinD x y) g2 k
  | _ => .err
theorem ds_join {fa fb : DnD} {apos : Pos} (ha : DM m X W A ca a fa) (hb : DM m' X W A cb b fb) (hm : (m || cb) = true := by rfl) (hs : starEach [b] X.env = [(false, eval b X.env)] := by rfl) (hbase : attributeBase a "join" X.env (eval a X.env) = eval a X.env := by rfl) (hline : (apos.endLine == pos.line) = true := by rfl) :
    DS X W A (ca && cb) (.Call (.Attribute a "join" apos) [b] [] pos) (joinC fa fb) :=
  ⟨(pe_join ha.pe hb.pe hs hbase hline).imp fun σ H Q ⟨O, g, k, r0, F, e0, G, q⟩ => by
    refine ⟨O, g, _, r0, F, e0, G, fun x d O1 H1 g1 F1 gr1 p1 e1 => ?_⟩
    cases d with
    | str sep =>
      refine ⟨⟨sep, rd_str (pM_rd p1)⟩, O1, g1, _, r0, F1, e1, G, fun y d2 O2 H2 g2 F2 gr2 p2 e2 => ?_⟩
      have rx := rd_str (pM_rd p1)
      have ry : RdD O2 H2 d2 y := pM_rd p2
      cases ho : joinD (.str sep) d2 with
      | none => simp only [ho, kopD] at e2; exact absurd e2.symm G.ne
      | some s =>
        simp only [ho, kopD] at e2
        have go : ∀ (ds : List D) (xs : List V), RpAll O2 H2 ds xs → ((strsD ds).bind fun ys => if (ys.map (·.length)).sum + ys.length * sep.length ≤ 16777216 then some (PyData.str (Txt.join sep ys)) else none) = some s →
            ∃ ys, xs = ys.map V.str ∧ (ys.map (·.length)).sum + ys.length * sep.length ≤ 16777216 ∧ s = .str (Txt.join sep ys) := fun ds xs qa h => by
          cases hy : strsD ds with
          | none => rw [hy] at h; cases h
          | some ys =>
            rw [hy] at h
            have h : (if (ys.map (·.length)).sum + ys.length * sep.length ≤ 16777216 then some (PyData.str (Txt.join sep ys)) else none) = some s := h
            by_cases hz : (ys.map (·.length)).sum + ys.length * sep.length ≤ 16777216
            · rw [if_pos hz] at h
              exact ⟨ys, strs_vals qa hy, hz, (Option.some.inj h).symm⟩
            · rw [if_neg hz] at h; cases h
        cases d2 with
        | list ds =>
          obtain ⟨p, xs, rfl, sq, qa, _⟩ := rd_lst (K := X.K) ry
          obtain ⟨ys, e1, hz, rfl⟩ := go ds xs qa ho
          subst e1
          exact ⟨sep, p, ys, rx, rfl, .inl sq, hz, q _ (.str (Txt.join sep ys)) O2 H2 g2 F2 (gr1.trans gr2) rfl e2⟩
        | tuple ds =>
          obtain ⟨p, xs, rfl, sq, qa, _, _⟩ := rd_tup (K := X.K) ry
          obtain ⟨ys, e1, hz, rfl⟩ := go ds xs qa ho
          subst e1
          exact ⟨sep, p, ys, rx, rfl, .inr sq, hz, q _ (.str (Txt.join sep ys)) O2 H2 g2 F2 (gr1.trans gr2) rfl e2⟩
        | _ => cases ho
    | _ => exact absurd e1.symm G.ne⟩
end
set_option Elab.async false
set_option linter.all false
set_option maxRecDepth 100000
open PySem L2

section
variable {X : Cx} {W : WX} {A : Act} {c ca cb m m' : Bool} {e a b : Expr} {es : List Expr} {x : Str} {p pos : Pos}
/-! ### what is never run -/
def errT : DnT := fun _ _ => .err
theorem dt_err {st : Stmt} : DT X W A st errT := ⟨⟨fun _ _ _ _ _ _ ⟨_, _, _, _, _, e, Eo', _⟩ => absurd e.symm Eo'.go.ne⟩⟩
def errD : DnD := fun _ _ => .err
theorem ds_err : DS X W A true e errD := ⟨⟨fun _ _ _ _ _ _ ⟨_, _, _, _, _, h, G, _⟩ => absurd h.symm G.ne⟩⟩
theorem room_u {k : Nat} {A : Around} (r : Room k A) : A.units + 65 < cLine := by have := r.un; omega
def isNoneB (d e : D) : Option Bool := match e with
  | .none => isNB d e
  | _ => none
def noNoneB (d e : D) : Option Bool := match e with
  | .none => noNB d e
  | _ => none
theorem ru_isNone : Ru2D (fun x y H Q => y = .non ∧ Q (.bl (decide (x = .non))) H) (opBD isNoneB) := ru_isN
theorem ru_noNone : Ru2D (fun x y H Q => y = .non ∧ Q (.bl (!decide (x = .non))) H) (opBD noNoneB) := ru_noN

/-! ### {} -/
def dctC : DnS := fun g k => k (.ow (.dict [])) g
theorem df_dctK : DF X W A true (.Dict [] [] pos) dctC := ⟨pe_dnewK.imp fun σ H Q ⟨O, g, k, r, F, e, G, q⟩ => fun p n => by
  have rs : Res O H (upd H p (.dK [])) (.ref p) (.ow (.dict [])) := ⟨same_new n, p, rfl, n, [], .inl ⟨[], upd_same, rfl, rfl⟩, rfl⟩
  obtain ⟨O', F', gr', pf⟩ := rs.pF F
  exact q _ _ O' _ g F' gr' pf e⟩
theorem df_dctT : DF X W A true (.Dict [] [] pos) dctC := ⟨pe_dnewT.imp fun σ H Q ⟨O, g, k, r, F, e, G, q⟩ => fun p n => by
  have rs : Res O H (upd H p (.dT [])) (.ref p) (.ow (.dict [])) := ⟨same_new n, p, rfl, n, [], .inr ⟨[], upd_same, rfl, rfl⟩, rfl⟩
  obtain ⟨O', F', gr', pf⟩ := rs.pF F
  exact q _ _ O' _ g F' gr' pf e⟩

/-! ### tuple(text), list(text) -/
theorem signsV {x : Str} {acc : Array Value} (h : ItemsOf (SignAt x) acc x.cps.size) : Vals (x.cps.toList.map fun c => V.str ⟨#[c]⟩) acc.toList := by
  have key : ∀ (cs : List Nat) (us : List Value), us.length = cs.length → (∀ (i : Nat) (v : Value), us[i]? = some v → ∃ c t, cs[i]? = some c ∧ v = .str ⟨#[c]⟩ t) → Vals (cs.map fun c => V.str ⟨#[c]⟩) us := by
    intro cs
    induction cs with
    | nil => intro us hl _; cases us with
      | nil => exact .nil
      | cons _ _ => simp at hl
    | cons c cs ih =>
      intro us hl hi
      cases us with
      | nil => simp at hl
      | cons u us =>
        obtain ⟨c', t, e1, e2⟩ := hi 0 u rfl
        cases e1
        exact .cons ⟨t, e2⟩ (ih us (by simpa using hl) fun i v hv => by
          obtain ⟨c, t, e1, e2⟩ := hi (i + 1) v (by simpa using hv)
          exact ⟨c, t, by simpa using e1, e2⟩)
  refine key _ _ (by rw [Array.length_toList, Array.length_toList, h.1]) fun i v hv => ?_
  obtain ⟨c, t, e1, e2⟩ := h.2 i v (by simpa using hv)
  exact ⟨c, t, by simpa using e1, e2⟩
def rTupS : List V → Hp → VK → Prop := fun xs H Q => ∃ z, xs = [.str z] ∧ z.length ≤ sizeLine ∧ ∀ p, H p = none → Q (.ref p) (upd H p (.tup (z.cps.toList.map fun c => V.str ⟨#[c]⟩)))
theorem call_tupS (hc : X.calm = true) : CallR X (.type "tuple") rTupS := by
  intro pins s σ H xs us Q I r h
  obtain ⟨z, rfl, hz, q⟩ := h
  obtain ⟨u, rfl, t, rfl⟩ := vals1 r
  refine PySem.call_tuple_str (I.ok.hd hc) z t (fun h' tk acc kp ha => ?_) hz
  have I1 : Inv X pins σ H { s with heap := h' } := I.kept (t' := s.toks) kp
  have I2 : Inv X pins σ (upd H h'.objs.size (.tup (z.cps.toList.map fun c => V.str ⟨#[c]⟩))) { s with heap := h'.push { cls := .type "tuple", data := .seq acc }, toks := tk } :=
    I1.laid (t' := tk) (fun b o e => Heap.get?_push_of_some _ e) (Nat.le_refl _) (show ObjOk X.prog X.w _ _ _ (.tup (z.cps.toList.map fun c => V.str ⟨#[c]⟩)) from ⟨by rw [List.length_map]; exact hz, acc.toList, signsV ha, by
      have e : acc.toList.toArray = acc := by simp
      rw [e]; exact PyProof.Rows.IsTup.new _ _⟩)
  exact ⟨.ref h'.objs.size, _, I2, rfl, q _ (I1.hok.fresh (Nat.le_refl _))⟩
def tupX : List D → Option D
  | [.str z] => if z.length ≤ sizeLine then some (.tuple (signs z)) else none
  | ds => tupD ds
theorem rpAll_signs {O : Addr → Prop} {H : Hp} (z : Str) : RpAll O H (signs z) (z.cps.toList.map fun c => V.str ⟨#[c]⟩) := by
  unfold signs
  generalize z.cps.toList = l
  induction l with
  | nil => rfl
  | cons c l ih => exact ⟨_, _, rfl, rfl, ih⟩
theorem ru_tupX : RuC (fun xs H Q => rTupS xs H Q ∨ ∃ p ys, xs = [.ref p] ∧ ((SqL X.K H p ys ∧ ∀ l, H l = none → Q (.ref l) (upd H l (.tup ys))) ∨ (SqT X.K H p ys ∧ Q (.ref p) H))) (fun ds => (tupX ds).map .sh) := by
  intro O H vs ds s Q ot rd ho hQ
  replace ho : (tupX ds).map .sh = some s := ho
  unfold tupX at ho
  split at ho
  · rename_i z
    by_cases hz : z.length ≤ sizeLine
    · rw [if_pos hz] at ho
      cases ho
      obtain ⟨v, rfl, r⟩ := rdl1 rd
      exact .inl ⟨z, by rw [rd_str r], hz, fun p n => hQ _ _ (res_tup ot n (rpAll_signs z))⟩
    · rw [if_neg hz] at ho; cases ho
  · exact .inr (ru_tupOf O H vs ds s Q ot rd ho hQ)
theorem ds_tuple {y : Expr} {fs : DnL} (hcalm : X.calm = true) (hg : Gl X "tuple") (hm : X.mg "tuple" = none) (ha : DL m X W A c [y] fs)
    (he : starEach [y] X.env = (false, eval y X.env) :: starEach [] X.env := by rfl) (hpl : (backTo pos (starEach [] X.env)).any (·.1) = false := by rfl) : DS X W A c (.Call (.Name "tuple" p) [y] [] pos) (opsD tupX fs) :=
  (df_callTy ru_tupX ((call_tupS hcalm).or call_tuple_of) hg hm PyProof.Rows.boot_tuple ha (by decide) (by decide) he hpl).d
end

/-! ### a def, told by its name -/
structure Fok (P : Program) (w : World) (K : PySem.W.Frag) (mg : Str → Option Value) (base : Heap) (cls : Nat → Option Value) (k : Nat) (x : Str) (n : Nat) (rf : List Nat) (φ : Fd) : Prop where
  ex : ∃ (f : Addr) (fd : FuncData) (ps : List Str), FnG P w K mg base k f fd ps (spD cls n rf φ) ∧ mg x = some (.ref f) ∧ PySem.W.keepIn K (.ref f) = true ∧ Binds K fd ps [] ∧ ps.length = n
theorem Fok.cal {X : Cx} {cls : Nat → Option Value} {k : Nat} {x : Str} {n : Nat} {rf : List Nat} {φ : Fd} (F : Fok X.prog X.w X.K X.mg X.base cls k x n rf φ) : Cal X cls k x n rf φ := ⟨by
  obtain ⟨f, fd, ps, h1, h2, h3, h4, h5⟩ := F.ex
  exact ⟨f, fd, ps, h1, h2, h3, h4⟩⟩
theorem Fok.calA {X : Cx} {A : Act} {cls : Nat → Option Value} {k : Nat} {x : Str} {n : Nat} {rf : List Nat} {φ : Fd} (hA : A.cls = cls) (F : Fok X.prog X.w X.K X.mg X.base cls k x n rf φ) : Cal X A.cls k x n rf φ := by
  rw [hA]; exact F.cal
theorem Fok.mono {P : Program} {w : World} {K : PySem.W.Frag} {mg : Str → Option Value} {base : Heap} {cls : Nat → Option Value} {j k : Nat} {x : Str} {n : Nat} {rf : List Nat} {φ : Fd} (F : Fok P w K mg base cls j x n rf φ) (h : j ≤ k) : Fok P w K mg base cls k x n rf φ := ⟨by
  obtain ⟨f, fd, ps, h1, h2, h3, h4, h5⟩ := F.ex
  exact ⟨f, fd, ps, h1.mono h, h2, h3, h4, h5⟩⟩
/-- where a def stands: i, its number in the program's top -/
def DefAt (K : PySem.W.Frag) (mg : Str → Option Value) (x : Str) (st : Stmt) : Prop := ∃ (f : Addr) (fd : FuncData), FunD K x x (defArgs st) (defBody st) (defScope st) [] [] f fd ∧ mg x = some (.ref f)
theorem fnok_of {P : Program} {w : World} {K : PySem.W.Frag} {mg : Str → Option Value} {base : Heap} {cls : Nat → Option Value} {x : Str} {st : Stmt} {N ps : List Str} {k n : Nat} {rf : List Nat} {ft : DnT} {f : Addr} {fd : FuncData} (F : FunD K x x (defArgs st) (defBody st) (defScope st) [] [] f fd) (S : FnScope N ps (defScope st)) (hn : ps.length = n)
    (h : ∀ (f : Addr) (cdv : Value) (A0 : Around) (outer : List Env) (s : Shared) (H : Hp) (E : XK), A0.guards = some [] → Room k (A0.deeper (PyProof.Rows.envOfC x (defScope st) s.heap.objs.size f cdv)) → ∀ A : Act, A.cls = cls →
      DTs (cxOf (L2.CX P w) P w K mg base N x (defScope st) f cdv A0 outer s H E) (fun c d _ H' => E c d H') A (defBody st) ft) : FnG P w K mg base (k + 1) f fd ps (spD cls n rf (fnD N.length rf ft)) := by
  rw [← hn]
  exact fn_ok F S fun cdv A0 outer s H E gd hr A hA => h f cdv A0 outer s H E gd hr A hA
theorem fok_of {P : Program} {w : World} {K : PySem.W.Frag} {mg : Str → Option Value} {base : Heap} {cls : Nat → Option Value} {x : Str} {st : Stmt} {N ps : List Str} {k n : Nat} {rf : List Nat} {ft : DnT} (D : DefAt K mg x st) (S : FnScope N ps (defScope st)) (hn : ps.length = n)
    (hb : ∀ (kV doc pm : Value) (an : Option Addr) (cdv ct : Value) (us : List Value), us.length = ps.length → bindArgs (PySem.W.fnOf x x (defArgs st) (defBody st) (defScope st) .none kV doc pm an cdv ct) ⟨us, []⟩ = pure (ps.zip us))
    (h : ∀ (f : Addr) (cdv : Value) (A0 : Around) (outer : List Env) (s : Shared) (H : Hp) (E : XK), A0.guards = some [] → Room k (A0.deeper (PyProof.Rows.envOfC x (defScope st) s.heap.objs.size f cdv)) → ∀ A : Act, A.cls = cls →
      DTs (cxOf (L2.CX P w) P w K mg base N x (defScope st) f cdv A0 outer s H E) (fun c d _ H' => E c d H') A (defBody st) ft) : Fok P w K mg base cls (k + 1) x n rf (fnD N.length rf ft) := by
  obtain ⟨f, fd, F, hm⟩ := D
  exact ⟨f, fd, ps, by rw [← hn]; exact fn_ok F S fun cdv A0 outer s H E gd hr A hA => h f cdv A0 outer s H E gd hr A hA, hm, F.kp, F.bindsN hb, hn⟩
/-- a def that is never to be run this deep -/
theorem fok_err {P : Program} {w : World} {K : PySem.W.Frag} {mg : Str → Option Value} {base : Heap} {cls : Nat → Option Value} {x : Str} {st : Stmt} {ps : List Str} {k n : Nat} {rf : List Nat} (D : DefAt K mg x st) (hn : ps.length = n)
    (hb : ∀ (kV doc pm : Value) (an : Option Addr) (cdv ct : Value) (us : List Value), us.length = ps.length → bindArgs (PySem.W.fnOf x x (defArgs st) (defBody st) (defScope st) .none kV doc pm an cdv ct) ⟨us, []⟩ = pure (ps.zip us)) :
    Fok P w K mg base cls k x n rf (fun _ => .err) := by
  obtain ⟨f, fd, F, hm⟩ := D
  exact ⟨f, fd, ps, ⟨fun vs H Q E ⟨O, ds, _, _, _, z⟩ => z.elim, fun A outer s H args us vs Q E _ _ _ _ _ ⟨O, ds, _, _, _, z⟩ => z.elim⟩, hm, F.kp, F.bindsN hb, hn⟩
set_option Elab.async false
set_option linter.all false
set_option maxRecDepth 100000
open PySem L2
theorem bt_int : bootBuiltins "int" = some (.type "int") := PyProof.Rows.boot_int
theorem bt_bool : bootBuiltins "bool" = some (.type "bool") := PyProof.Rows.boot_bool
theorem bt_str : bootBuiltins "str" = some (.type "str") := PyProof.Rows.boot_str
theorem bt_list : bootBuiltins "list" = some (.type "list") := PyProof.Rows.boot_list
theorem bt_tuple : bootBuiltins "tuple" = some (.type "tuple") := PyProof.Rows.boot_tuple
theorem bt_dict : bootBuiltins "dict" = some (.type "dict") := PyProof.Rows.boot_dict
theorem bt_len : bootBuiltins "len" = some (.builtin "len") := PySem.boot_len
theorem tkF {P : Program} {w : World} {K : PySem.W.Frag} {mg : Str → Option Value} {base : Heap} {N : List Str} {qual : Str} {scope : Scope} {f : Addr} {cdv : Value} {A0 : Around} {outer : List Env} {s : Shared} {H : Hp} {E : XK} :
    Takes (cxOf (L2.CX P w) P w K mg base N qual scope f cdv A0 outer s H E) (fun c d _ H' => E c d H') := takes_of rfl rfl rfl rfl
theorem tk0 {X : Cx} : Takes X W0 := fun _ _ x => by
  obtain ⟨_, _, _, _, _, _, _, _, _, _, _, _, _, _, _, _, z⟩ := x
  exact z.elim
set_option Elab.async false
set_option linter.all false
set_option maxRecDepth 100000
open PySem L2

/-! ### the head's hook: what is known holds no list -/
def notL (o : Obj) : Bool := match o.cls with
  | .type c => c != "list"
  | _ => true
def frZ (g : Addr → Option Obj) (as : List Addr) : PySem.W.Frag := (He.frG g as).filter fun q => notL q.2
theorem frZ_look {g : Addr → Option Obj} {as : List Addr} {a : Addr} {o : Obj} (h : (frZ g as).lookup a = some o) : g a = some o ∧ notL o = true := by
  obtain ⟨h1, h2⟩ := List.mem_filter.mp (He.lookup_mem h)
  exact ⟨He.frG_mem h1, h2⟩
def NoLst (K : PySem.W.Frag) : Prop := ∀ a o, K.lookup a = some o → notL o = true
/-- an exception class of the program's own, a ValueError -/
def excOk (K : PySem.W.Frag) (x : Str) : Bool :=
  He.eqO (PySem.W.findIn K (.ref (He.ga K x)) "__getattribute__") (some (some (.builtin "BaseException.__getattribute__"))) && (He.eqO (PySem.W.findIn K (.ref (He.ga K x)) "__getattr__") (some none) &&
  (decide (PySem.W.subIn K (.ref (He.ga K x)) (.type "BaseException") = some true) && (PySem.W.hasDictIn K (He.ga K x) && (He.eqO (PySem.W.findIn K (.ref (He.ga K x)) "__class__") (some (some (.builtin "object.__class__"))) &&
  (He.eqO (PySem.W.specialIn K (.builtin "object.__class__") "__get__") (some (some (.builtin "getset_descriptor.__get__"))) && (decide (PySem.W.takesIn K (.builtin "object.__class__") = some true) && (decide (PySem.W.mroIn K (He.ga K x) (.type "object") = some true) &&
  (decide (PySem.W.kitOne K (.ref (He.ga K x)) (.type "ValueError") = some true) && (He.Fa.glo x).ok K && (He.Fa.exc x).ok K))))))))
/-- an own exception class, by its name -/
structure ExF (K : PySem.W.Frag) (mg : Str → Option Value) (x : Str) : Prop where
  gx : mg x = some (.ref (He.ga K x))
  ei : PySem.W.excIn K (He.ga K x) He.veBase "ValueError.__new__" = true
  kx : PySem.W.keepIn K (.ref (He.ga K x)) = true
  sb : PySem.W.subIn K (.ref (He.ga K x)) (.type "BaseException") = some true
  ty : PySem.W.typeIn K (.ref (He.ga K x)) = some (.type "type")
  xc : ExcC K (He.ga K x)
  kv : PySem.W.kitOne K (.ref (He.ga K x)) (.type "ValueError") = some true
theorem exF_of {K : PySem.W.Frag} {h : Heap} {mg : Str → Option Value} (X : K.In h) (G : h.Ns mainGlobals mg) {x : Str} (c : excOk K x = true) : ExF K mg x := by
  unfold excOk at c
  obtain ⟨c1, c⟩ := He.ba c
  obtain ⟨c2, c⟩ := He.ba c
  obtain ⟨c3, c⟩ := He.ba c
  obtain ⟨c4, c⟩ := He.ba c
  obtain ⟨c5, c⟩ := He.ba c
  obtain ⟨c6, c⟩ := He.ba c
  obtain ⟨c7, c⟩ := He.ba c
  obtain ⟨c8, c⟩ := He.ba c
  obtain ⟨c, c11⟩ := He.ba c
  obtain ⟨c9, c10⟩ := He.ba c
  obtain ⟨e1, e2, e3, e4⟩ := He.exc_ok c11
  exact ⟨He.glo_ok X G c10, e1, e2, e3, e4, ⟨He.eqO_ok c1, He.eqO_ok c2, of_decide_eq_true c3, c4, He.eqO_ok c5, He.eqO_ok c6, of_decide_eq_true c7, of_decide_eq_true c8⟩, of_decide_eq_true c9⟩
def obsZ (n : Nat) (fa : List He.Fa) (xs : List Str) (fn : List He.DefD) (g : Addr → Option Obj) : He.AlD :=
  ((He.obsD fa fn (frZ g (He.asD g n))).1 && xs.all fun x => excOk (frZ g (He.asD g n)) x, (He.obsD fa fn (frZ g (He.asD g n))).2)
theorem obsZ_says {n : Nat} {fa : List He.Fa} {xs : List Str} {fn : List He.DefD} {g : Addr → Option Obj} (h : obsZ n fa xs fn g = He.valD fn) : He.SaysD fa fn (frZ g (He.asD g n)) ∧ (∀ x ∈ xs, excOk (frZ g (He.asD g n)) x = true) := by
  unfold obsZ at h
  have h1 := congrArg Prod.fst h
  have h2 := congrArg Prod.snd h
  obtain ⟨h3, h4⟩ := Bool.and_eq_true_iff.mp (show ((He.obsD fa fn (frZ g (He.asD g n))).1 && xs.all fun x => excOk (frZ g (He.asD g n)) x) = true from h1)
  exact ⟨Prod.ext h3 h2, fun x hx => List.all_eq_true.mp h4 x hx⟩
def hookZ (n : Nat) (fa : List He.Fa) (xs : List Str) (fn : List He.DefD) : PySem.W.Hook where
  α := He.AlD
  obs := fun s => obsZ n fa xs fn s.heap.get?
  val := fun _ => He.valD fn
  says := fun _ h => ∃ K : PySem.W.Frag, K.In h ∧ He.SaysD fa fn K ∧ NoLst K ∧ ∀ x ∈ xs, excOk K x = true
  of := fun _ s e => ⟨_, fun _ _ e => (frZ_look e).1, (obsZ_says e).1, fun _ _ e => (frZ_look e).2, (obsZ_says e).2⟩
  keeps := fun _ _ _ ⟨K, hK, c, d⟩ k => ⟨K, PySem.W.Frag.In.keeps hK k, c, d⟩
theorem obsZ_eq {n : Nat} {fa : List He.Fa} {xs : List Str} {fn : List He.DefD} {g : Addr → Option Obj} {s : Shared} (h : ∀ a, g a = s.heap.get? a) : obsZ n fa xs fn g = (hookZ n fa xs fn).obs s := by
  have e : g = s.heap.get? := funext h
  rw [e] <;> rfl

/-! ### a law's promise -/
abbrev noX : XK := fun _ _ _ => False
theorem cx_no {P : Program} {w : World} {outer : List Env} {H : Hp} {s : Shared} {u : Value} {s' : Shared} (h : L2.CX P w outer H s noX u s') : False := by
  obtain ⟨_, _, _, _, _, h⟩ := h
  exact h.2.2.2.2.2.2.2
/-- the heap at a law's start: nothing but the script is told of -/
def hp0 (a : Addr) (o : Obj) (xs : List V) : Hp := fun b => if b = a then some (.frz o (.lst xs)) else none
theorem hp0_at {a b : Addr} {o : Obj} {xs : List V} {u : HO} (h : hp0 a o xs b = some u) : b = a ∧ u = .frz o (.lst xs) := by
  unfold hp0 at h
  split at h
  · rename_i e; cases h; exact ⟨e, rfl⟩
  · cases h
theorem hp0_no {a b : Addr} {o : Obj} {xs : List V} (h : b ≠ a) : hp0 a o xs b = none := if_neg h
section
open PySem.Spec PyProof.Rows
/-- a law's run, from the promise of its def -/
theorem law_runG {P : Program} {w : World} {K : PySem.W.Frag} {mg mb : Str → Option Value} {k : Nat} {fa a : Addr} {fd : FuncData} {x : Str} {sp : Sp} {s₁ : Shared} {vs : List Value} {ns : List Int}
    (KX : K.In s₁.heap) (nl : NoLst K) (gm : s₁.heap.Ns mainGlobals mg) (gb : s₁.heap.Ns builtinsNs mb) (gbb : ∀ x : Str, x ≠ "__name__" → mb x = bootBuiltins x) (lim : s₁.heap.NoLimit) (gens : s₁.gens = #[])
    (ob : s₁.heap.get? a = some { cls := .type "list", data := .seq vs.toArray }) (intsOf : IntsAre vs ns) (few : ns.length ≤ sizeLine) (room : Room k callerA)
    (F : ∀ base : Heap, K.In base → base.Ns mainGlobals mg → FnG P w K mg base k fa fd [x] sp) (bind : ∀ (s : Shared) (u : Value), BindsTo s fd ⟨[u], []⟩ [(x, u)])
    (told : ∀ H : Hp, Rd H a (.lst (ns.map V.int)) → sp [.ref a] H (fun v _ => v = .bl true) noX) :
    codeAny (model P w) callerA (.call (.ref fa) ⟨[.ref a], []⟩) (fun r s' => r = .ok (.ret (.bool true)) ∧ OldK s₁.heap s'.heap ∧ s'.os = s₁.os ∧ AllBare s'.gens) s₁ := by
  generalize ho : ({ cls := .type "list", data := .seq vs.toArray } : Obj) = o at ob
  have rel := vals_ints intsOf
  have notK : K.lookup a = none := by
    cases q : K.lookup a with
    | none => rfl
    | some u =>
      have e := KX a u q
      rw [ob] at e
      cases e
      have := nl a o q
      rw [← ho] at this
      cases this
  let H := hp0 a o (ns.map V.int)
  have rd : Rd H a (.lst (ns.map V.int)) := .inr ⟨o, if_pos rfl⟩
  have hok : HOk P w H s₁.heap := fun b u z => by
    obtain ⟨e1, e2⟩ := hp0_at z
    subst e1 e2
    exact ⟨ob, by rw [List.length_map]; exact few, vs, _, rel, by rw [← ho] at ob; exact ob⟩
  have keepB : ∀ {b : Addr} {u : Obj}, s₁.heap.get? b = some u → b ≠ a → (hidT s₁.heap H).get? b = some u := fun e n => hidT_get e (hp0_no n)
  have noDict : ∀ {b : Addr} {u : Obj} {es : Array DictEntry} {ep : Nat}, s₁.heap.get? b = some u → u.data = .dict es ep → b ≠ a := fun {b u es ep} e d z => by
    rw [z, ob] at e
    cases e
    rw [← ho] at d
    cases d
  have ns2 : ∀ {b : Addr} {m : Str → Option Value}, s₁.heap.Ns b m → (hidT s₁.heap H).Ns b m := fun {b m} ⟨u, es, ep, e, d, r⟩ => ⟨u, es, ep, keepB e (noDict e d), d, r⟩
  have kin2 : K.In (hidT s₁.heap H) := fun b u e => keepB (KX b u e) fun z => by rw [z, notK] at e; cases e
  have modul : Mod K mg (hidT s₁.heap H) := ⟨kin2, ns2 gm, ⟨mb, ns2 gb, gbb⟩, let ⟨mc, h1, h2⟩ := lim; ⟨mc, ns2 h1, h2⟩⟩
  have env : Env0 P w K mg (hidT s₁.heap H) callerA [] s₁ H :=
    ⟨rfl, modul, fun b u e => of_hidT e, Nat.le_of_eq (hidT_size _ _), trivial, fun b z => absurd z List.not_mem_nil, hok, .of_eq gens⟩
  refine codeAny_mono ((F _ kin2 (ns2 gm)).run callerA [] s₁ H ⟨[.ref a], []⟩ [.ref a] [.ref a] _ noX rfl room env (bind s₁ (.ref a)) (.cons rfl .nil) (told H rd)) fun r s' done => ?_
  match r, done with
  | .error e, done => exact (cx_no done).elim
  | .ok .next, done => exact done.elim
  | .ok .brk, done => exact done.elim
  | .ok .cont, done => exact done.elim
  | .ok (.ret u), ⟨v, H', os, bare, un, hok', rv, q⟩ =>
    have q : v = .bl true := q
    subst q
    cases (show u = Value.bool true from rv)
    refine ⟨rfl, OldK.of_keep fun b u e => ?_, os, bare⟩
    by_cases hb : b = a
    · subst hb
      have z : H b = some (.frz o (.lst (ns.map V.int))) := if_pos rfl
      obtain ⟨e2, _⟩ := hok' b _ (un.frzs b o _ z)
      rw [ob] at e
      cases e
      exact e2
    · exact un.keep b u e (hp0_no hb) (fun z => absurd z List.not_mem_nil) List.not_mem_nil
/-- a law by its def's promise -/
theorem walkG {l : PySem.W.OpenLaw} {n k : Nat} {q : Program} {loose : List Str} {XP : (Str → Option Value) → Heap → Prop} {YP : World → Heap → Prop} {d : DefRec} {x : Str} (hn : l.most = some n) (hn2 : n ≤ sizeLine) (hdf : d.params.defaults = []) (hr : Room k callerA)
    (F : ∀ (w : World) (mg : Str → Option Value) (fa : Addr) (h : Heap), YP w h → h.Ns mainGlobals mg → mg d.name = some (.ref fa) → ∃ (K : PySem.W.Frag) (fd : FuncData) (sp : Sp), K.In h ∧ NoLst K ∧ (∀ (s : Shared) (u : Value), BindsTo s fd ⟨[u], []⟩ [(x, u)]) ∧
      (∀ (H : Hp) (a : Addr) (ns : List Int), ns.length ≤ n → Rd H a (.lst (ns.map V.int)) → sp [.ref a] H (fun v _ => v = .bl true) noX) ∧ ∀ base : Heap, K.In base → base.Ns mainGlobals mg → FnG l.prog w K mg base k fa fd [x] sp) :
    PySem.W.WalkO q loose XP YP l.row.toRowW d [] (fun f vs => PySem.call f vs) := by
  refine Att.attach_call hn hdf fun w s₀ s₁ mg mb fa o pm cd doc a vs ns G Y ho hd hcd hmg hobj hints hlen hg => ?_
  obtain ⟨K, fd, sp, KX, nl, hb, hsp, hF⟩ := F w mg fa _ Y G.T.g hmg
  exact law_runG KX nl G.T.g G.T.b G.T.builtins G.T.nolimit hg hobj hints (Nat.le_trans hlen hn2) hr hF hb fun H rd => hsp H a ns hlen rd
end
/-- what is left of a law: its reading tells True -/
theorem law_sp {K : PySem.W.Frag} {cls : Nat → Option Value} {φ : Fd} {H : Hp} {a : Addr} {ns : List Int} (rd : Rd H a (.lst (ns.map V.int))) (h : φ [.list (ns.map .int)] = .ok (.sh (.bool true)) []) :
    spD cls 1 [] φ [.ref a] H (fun v _ => v = .bl true) noX := by
  have rp : RpAll (fun _ => False) H (ns.map .int) (ns.map V.int) := by
    clear h rd
    induction ns with
    | nil => rfl
    | cons n ns ih => exact ⟨_, _, rfl, rfl, ih⟩
  refine ⟨fun _ => False, [.list (ns.map .int)], fun _ z => z.elim, ⟨rfl, fun i d _ hd => ?_, (fun i d z => nomatch z), (fun i j p z => nomatch z)⟩, rfl, ?_⟩
  · cases i with
    | zero =>
      cases hd
      exact ⟨_, rfl, a, _, rfl, (fun z => z), rd, rp⟩
    | succ i => cases hd
  · rw [h]
    intro v O' H' _ _ _ _ _ vo _
    exact vo
set_option Elab.async false
set_option linter.all false
set_option maxRecDepth 100000
open PySem L2

/-! ### try: .. except C as e: if not isinstance(e, ValueError): return False -/
section
variable {X : Cx} {W : WX} {A : Act} {i j : Nat} {x n : Str} {C : Addr} {body : List Stmt} {fb : DnT} {np pe pv pc pp pu pr prr pi pos' pos : Pos}
/-- what is read when the clause's suite runs -/
def tsV (X : Cx) (i : Nat) : Addr → Value → Option Addr → TS := fun a cls d D σ H => (∃ D0, cls = .ref D0 ∧ d = none ∧ ExcC X.K D0 ∧ PySem.W.kitOne X.K (.ref D0) (.type "ValueError") = some true) ∧ σ[i]? = some (some (.ref a)) ∧ D.nx σ H
theorem suite_V {a : Addr} {oe : Obj} {cls : Value} {d : Option Addr} {pn : List (Addr × Obj)} (hi : X.N[i]? = some n) (hv : Vis X.env.scope n) (hz : Zc cls d oe) (hf : ∃ vs, oe.data = .fields vs) (hg : Gl X "isinstance") (hm : X.mg "isinstance" = none) (hg2 : Gl X "ValueError") (hm2 : X.mg "ValueError" = none)
    (hd : (n == ("__debug__" : Str)) = false) (hcd : (n == ("__classdict__" : Str)) = false)
    (he : starEach [.Name n pe, .Name "ValueError" pv] X.env = (false, eval (.Name n pe) X.env) :: starEach [.Name "ValueError" pv] X.env) (he2 : starEach [.Name "ValueError" pv] X.env = (false, eval (.Name "ValueError" pv) X.env) :: starEach [] X.env) (hpl : (backTo pc (starEach [.Name "ValueError" pv] X.env)).any (·.1) = false) :
    PSs (X.suite a ((a, oe) :: pn)) [.If (.UnaryOp .Not (.Call (.Name "isinstance" pp) [.Name n pe, .Name "ValueError" pv] [] pc) pu) [.Return (some (.Constant (.bool false) j pr)) prr] [] pi] (tsV X i a cls d) := by
  refine ⟨fun pins s σ H D I ⟨⟨D0, ec, ed, ex, kt⟩, hσ, q⟩ => ?_⟩
  subst ec ed
  have hc := call_isE (X := X) (a := a) (pn := pn) ex hz hf
  have bve : bootBuiltins "ValueError" = some (.type "ValueError") := by decide +kernel
  have pcall : PE (X.suite a ((a, oe) :: pn)) (.Call (.Name "isinstance" pp) [.Name n pe, .Name "ValueError" pv] [] pc) _ :=
    pe_callB hc hg hm PyProof.Rows.boot_isinstance (pa_cons (pe_var (i := i) hi hv hd hcd) (pa_cons (pe_bltn (v := .ty "ValueError") hg2 hm2 bve rfl (by decide) (by decide)) pa_nil he2) he) (by decide) (by decide) he hpl
  have pst := pss_one (ps_if (pos := pi) (pt_not (pos := pu) (pt_truth pcall (by intro _; rfl))) (pss_one (ps_ret (pos := prr) (show PE (X.suite a ((a, oe) :: pn)) (.Constant (.bool false) j pr) (tC (.bl false)) from pe_bl))) pss_nil)
  refine pst.run pins s σ H D I ?_
  refine ⟨.ref a, hσ, .ty "ValueError", .type "ValueError", true, rfl, fun u r => r, kt, ?_⟩
  refine ⟨true, rfl, ?_⟩
  exact iteF q
/-- try: body, except the class: nothing. yes: does the clause take this class; slot i the name behind as -/
def tryW (i : Nat) (yes : Nat → Option Bool) (fb : DnT) : DnT := fun g k => match g[i]? with
  | some .no => match fb (toRf g) .nx with
    | .nx g' => if g'.length = g.length then k (back g g') else .err
    | .exc c g' => if g'.length = g.length then (match yes c with
      | some true => k ((back g g').set i .no)
      | some false => .exc c (back g g')
      | none => .err) else .err
    | .ret (.sh d) g' => if g'.length = g.length then .ret (.sh d) (back g g') else .err
    | _ => .err
  | _ => .err
/-- the clause takes this class of exception; the suite then does nothing -/
theorem dt_tryV (yes : Nat → Option Bool) (hs : X.stack = X.env :: X.outer) (hfr : X.env.frame = some X.env.locals) (hN : X.N.Nodup) (hi : X.N[i]? = some n) (hln : X.env.kindOf n = some .local) (hc : Names X x (.ref C)) (tk : Takes X W)
    (hb : ∀ (W' : WX) (pn : List (Addr × Obj)) (xe : Value → Shared → Prop), Takes (X.tr pn xe) W' → PassesOwn (model X.prog X.w) X.A X.env xe → ∀ A' : Act, A'.cls = A.cls → DTs (X.tr pn xe) W' A' body fb)
    (hyes : ∀ c b, yes c = some b → ∃ D, A.cls c = some (.ref D) ∧ PySem.W.exmOne X.K (.ref D) (.ref C) = some b ∧ (b = true → ExcC X.K D ∧ PySem.W.kitOne X.K (.ref D) (.type "ValueError") = some true))
    (hg : Gl X "isinstance") (hm : X.mg "isinstance" = none) (hg2 : Gl X "ValueError") (hm2 : X.mg "ValueError" = none) (hv : Vis X.env.scope n)
    (hd : (n == ("__debug__" : Str)) = false := by decide) (hcd : (n == ("__classdict__" : Str)) = false := by decide)
    (he : starEach [.Name n pe, .Name "ValueError" pv] X.env = (false, eval (.Name n pe) X.env) :: starEach [.Name "ValueError" pv] X.env := by rfl) (he2 : starEach [.Name "ValueError" pv] X.env = (false, eval (.Name "ValueError" pv) X.env) :: starEach [] X.env := by rfl) (hpl : (backTo pc (starEach [.Name "ValueError" pv] X.env)).any (·.1) = false := by rfl) :
    DT X W A (.Try body [.ExceptHandler (some (.Name x np)) (some n) [.If (.UnaryOp .Not (.Call (.Name "isinstance" pp) [.Name n pe, .Name "ValueError" pv] [] pc) pu) [.Return (some (.Constant (.bool false) j pr)) prr] [] pi] pos'] [] [] pos) (tryW i yes fb) :=
  ⟨(ps_try_as (tb := fun W' D σ H => ∃ A' : Act, A'.cls = A.cls ∧ tST A' W' fb D σ H) (ts := tsV X i) hs hfr hN hi hln hc tk (fun W' pn xe t p => ⟨fun pins s σ H D I ⟨A', ha, q⟩ => (hb W' pn xe t p A' ha).ps.run pins s σ H D I q⟩) (fun a oe cls d pn hz hf => suite_V hi hv hz hf hg hm hg2 hm2 hd hcd he he2 hpl)).imp fun D σ H ⟨O, g, k, r, F, e, Eo', q⟩ => by
    unfold tryW at e
    cases hgi : g[i]? with
    | none => rw [hgi] at e; exact absurd e.symm Eo'.go.ne
    | some si =>
      rw [hgi] at e
      cases si with
      | sh _ => exact absurd e.symm Eo'.go.ne
      | ow _ => exact absurd e.symm Eo'.go.ne
      | rf _ => exact absurd e.symm Eo'.go.ne
      | no =>
        simp only at e
        generalize hr : fb (toRf g) .nx = rb at e
        refine ⟨A.inner O σ H g, rfl, O, toRf g, .nx, rb, F.enter, hr, ⟨⟨fun z => ?_, fun cn gx ex cv σ5 O5 H5 hcv F5 => ?_⟩, fun s gx ex v σ5 O5 H5 F5 p5 => ?_, fun gx ex σ5 O5 H5 F5 gr5 => ?_, fun gx ex σ5 O5 H5 F5 gr5 => ?_⟩, fun σ5 O5 H5 g5 F5 gr5 e5 => ?_⟩
        · subst z; exact absurd e.symm Eo'.go.ne
        · subst ex
          simp only at e
          by_cases hl : gx.length = g.length
          · rw [if_pos hl] at e
            have Fb := F.leave F5 hl
            have gr := F.grIn F5
            have hi5 : i < σ5.length := by
              rw [← F5.len, hl]
              exact (List.getElem?_eq_some_iff.mp hgi).1
            cases hy : yes cn with
            | none => rw [hy] at e; exact absurd e.symm Eo'.go.ne
            | some b =>
              rw [hy] at e
              obtain ⟨D0, h1, h2, h3⟩ := hyes cn b hy
              have hcv' : A.cls cn = some cv := hcv
              rw [h1] at hcv'
              cases hcv'
              cases b with
              | true =>
                obtain ⟨x1, x2⟩ := h3 rfl
                refine ⟨true, h2, fun _ a na => ⟨⟨D0, rfl, rfl, x1, x2⟩, ?_, ?_⟩, fun z => nomatch z⟩
                · rw [setV, if_pos rfl, if_pos hi5]
                · have F6 : FI A O5 ((σ5.set i (some (.ref a))).set i none) H5 ((back g gx).set i .no) := by
                    refine (Fb.forget (g' := (back g gx).set i .no) (by simp) fun j s hj => ?_).slots (by simp) fun j s hj hn => ?_
                    · rw [setIs] at hj
                      split at hj
                      · split at hj
                        · cases hj; exact .inl rfl
                        · cases hj
                      · exact .inr hj
                    · rw [setIs] at hj
                      by_cases hij : i = j
                      · rw [if_pos hij] at hj
                        split at hj
                        · cases hj; exact absurd rfl hn
                        · cases hj
                      · rw [setV, if_neg hij, setV, if_neg hij]
                  exact q _ O5 H5 _ F6 gr e
              | false => exact ⟨false, h2, fun z => (nomatch z), fun _ => Eo'.go.ex cn _ e.symm _ σ5 O5 H5 h1 Fb⟩
          · rw [if_neg hl] at e; exact absurd e.symm Eo'.go.ne
        · subst ex
          cases s with
          | sh d =>
            simp only at e
            by_cases hl : gx.length = g.length
            · rw [if_pos hl] at e
              exact Eo'.rt (.sh d) _ e.symm v σ5 O5 H5 (F.leave F5 hl) p5
            · rw [if_neg hl] at e; exact absurd e.symm Eo'.go.ne
          | _ => exact absurd e.symm Eo'.go.ne
        · subst ex; exact absurd e.symm Eo'.go.ne
        · subst ex; exact absurd e.symm Eo'.go.ne
        · have ex : rb = .nx g5 := e5.symm
          subst ex
          simp only at e
          by_cases hl : g5.length = g.length
          · rw [if_pos hl] at e
            exact q σ5 O5 H5 _ (F.leave F5 hl) (F.grIn F5) e
          · rw [if_neg hl] at e; exact absurd e.symm Eo'.go.ne⟩
end
set_option Elab.async false
set_option linter.all false
set_option maxRecDepth 100000
open PySem L2

/-! ### repr -/
def rRepr (K : PySem.W.Frag) : List V → Hp → VK → Prop := fun xs H Q => ∃ x d, xs = [x] ∧ Dp K H x d ∧ (∃ a, x = .ref a) ∧ d.showable = true ∧ d.hasDict = false ∧ d.depth ≤ 64 ∧ d.shown.length ≤ sizeLine ∧ Q (.str d.shown) H
theorem call_reprD {X : Cx} (hg : X.A.guards = some []) (hu : X.A.units + 66 < cLine) : CallR X (.builtin "repr") (rRepr X.K) := by
  intro pins s σ H xs us Q I r h
  obtain ⟨x, d, rfl, hd, ⟨a, rfl⟩, h1, h2, h3, h4, q⟩ := h
  obtain ⟨u, rfl, r1⟩ := vals1 r
  obtain ⟨as, rd⟩ := Dp.reads I d _ u hd r1
  cases (show u = Value.ref a from r1)
  refine PySem.repr_of_reads' rd h1 (fun z => by rw [h2] at z; cases z) hg (by omega) (fun b o e => e) (fun h' t tk k => ?_) h4
  exact ⟨.str _, H, I.kept (t' := tk) k, ⟨_, rfl⟩, q⟩
def reprD : List D → Option D
  | [d] => match d with
    | .list _ | .tuple _ => if (d.showable && !d.hasDict && decide (d.depth ≤ 64) && decide (d.shown.length ≤ sizeLine)) = true then some (.str d.shown) else none
    | _ => none
  | _ => none
theorem ru_repr {K : PySem.W.Frag} : RuCD (rRepr K) reprD := by
  intro O H vs ds s Q ot rd ho hQ
  have key : ∀ {d : D}, ds = [d] → (∀ x, RdD O H d x → ∃ a, x = .ref a) → (if (d.showable && !d.hasDict && decide (d.depth ≤ 64) && decide (d.shown.length ≤ sizeLine)) = true then some (PyData.str d.shown) else none) = some s → rRepr K vs H Q := fun {d} e hx hs => by
    subst e
    obtain ⟨v, rfl, r⟩ := rdl1 rd
    split at hs
    · rename_i hc
      simp only [Bool.and_eq_true, decide_eq_true_eq, Bool.not_eq_true'] at hc
      obtain ⟨⟨⟨c1, c2⟩, c3⟩, c4⟩ := hc
      cases hs
      exact ⟨v, d, rfl, r.dp c2, hx v r, c1, c2, c3, c4, hQ _ rfl⟩
    · cases hs
  unfold reprD at ho
  split at ho
  · split at ho
    · exact key rfl (fun x r => by obtain ⟨a, _, e, _⟩ := rd_lst (K := K) r; exact ⟨a, e⟩) ho
    · exact key rfl (fun x r => by obtain ⟨a, _, e, _⟩ := rd_tup (K := K) r; exact ⟨a, e⟩) ho
    · cases ho
  · cases ho

/-! ### sorted -/
section
open PySem.Spec PyProof.Rows PySem.W
variable {prog : Program} {w : World} {A : Around} {E : Value → Shared → Prop} {s : Shared}
theorem collect_seqT {l : Addr} {T : String} {o : Obj} {vs : List Value} {n : Nat} {Q : List Value → Shared → Prop} (hT : T = "list" ∨ T = "tuple") (ho : s.heap.get? l = some o) (hc : o.cls = .type T) (hd : o.data = .seq vs.toArray n)
    (h : Q vs { s with heap := (s.heap.push (seqObj "list" #[] 0)).update s.heap.objs.size (Obj.mapSeq (· ++ vs.toArray)) }) (hsz : vs.length ≤ sizeLine) :
    wpAny (model prog w) A (collect (.ref l)) Q E s := by
  unfold collect
  refine wpAny_bind (wpAny_runValue (codeAny_builtin entry_proto_collect' ?_))
  show wpAny _ _ (do again (.builtin "list.__iadd__" ⟨[← newList [], .ref l], []⟩)) _ _ s
  refine wpAny_bind (wpAny_newList (wpAny_pure ⟨Code.quiet_builtin _ (by decide +kernel), codeAny_builtin entry_list_iadd' ?_⟩))
  show wpAny _ _ (Builtin.List.listExtendWith (.ref s.heap.objs.size) (.ref l) (.ref s.heap.objs.size)) _ _ { s with heap := s.heap.push (seqObj "list" #[] 0) }
  unfold Builtin.List.listExtendWith
  have ho' : (s.heap.push (seqObj "list" #[] 0)).get? l = some o := Heap.get?_push_of_some _ ho
  refine wpAny_bind (wpAny_typeOf (T := T) ⟨o, ho', hc⟩ ?_)
  have h1 : (Builtin.List.listSameRef (.ref s.heap.objs.size) (.ref l) || Value.type T == Value.type "list" || Value.type T == Value.type "tuple") = true := by
    rcases hT with rfl | rfl <;> simp
  rw [if_pos h1]
  refine wpAny_bind (listItems_at ho' hd ?_)
  refine wpAny_bind (listItems_at (xs := #[]) (n := 0) (Heap.get?_push_size _ rfl) rfl ?_)
  rw [if_neg (by simp)]
  refine wpAny_bind (listUpdate_at (xs := #[]) (n := 0) (Heap.get?_push_size _ rfl) rfl ?_ (Nat.zero_le _) (by show (#[] ++ vs.toArray).size ≤ sizeLine + 1; simp only [Array.size_append, List.size_toArray, List.length_nil]; omega))
  refine wpAny_pure ?_
  show wpAny (model prog w) A (do
      let o ← load s.heap.objs.size
      match o.data with
      | .seq xs _ => pure xs.toList
      | _ => unsupported "internal:collect") Q E { s with heap := (s.heap.push (seqObj "list" #[] 0)).update s.heap.objs.size (Obj.mapSeq (· ++ vs.toArray)) }
  refine wpAny_bind (wpAny_load (get?_update_seq (Heap.get?_push_size _ rfl) _) ?_)
  show wpAny _ _ (pure ((#[] : Array Value) ++ vs.toArray).toList) Q E _
  rw [show ((#[] : Array Value) ++ vs.toArray).toList = vs by simp]
  exact wpAny_pure h
theorem sorted_gen {κ : KeyKind} {u : Value} {h1 : Heap} {tk : Nat} {vs : List Value} {Q : Value → Shared → Prop} (hc : ∀ {Q' : List Value → Shared → Prop} {E' : Value → Shared → Prop}, Q' vs { s with heap := h1, toks := tk } → wpAny (model prog w) A.in1 (collect u) Q' E' s) (hL : vs.length ≤ sizeLine)
    (S : SortsAt prog w A.in1.in1 { s with heap := sortingHeap (h1.push (seqObj "list" vs.toArray 0)) h1.objs.size vs, toks := tk } κ vs)
    (h : Q (.ref h1.objs.size) { s with heap := sortedHeap (h1.push (seqObj "list" vs.toArray 0)) h1.objs.size vs (sortVals κ false vs vs).toArray, toks := tk }) : wpAny (model prog w) A (call (.builtin "sorted") [u]) Q E s := by
  refine call_function_entry_kw kind_sorted plain_sorted entry_sorted (args_sorted1 _) ?_
  unfold Builtin.«sorted»
  refine wpAny_bind (m := checkCount "sorted" 1 1 _) (wpAny_pure ?_)
  refine wpAny_bind (hc ?_)
  refine wpAny_bind (wpAny_newList ?_ hL)
  have hat : (h1.push (seqObj "list" vs.toArray 0)).get? h1.objs.size = some (seqObj "list" vs.toArray 0) := Heap.get?_push_size _ rfl
  show wpAny _ _ _ _ _ { s with heap := h1.push (seqObj "list" vs.toArray 0), toks := tk }
  refine wpAny_bind (wpAny_holding (wpAny_call_entry_kw slot_list_sort ⟨_, hat, rfl⟩ entry_list_sort ?body (args_list_sort _)))
  case body =>
    show wpAny (model prog w) A.in1.in1 (Builtin.«list.sort» ⟨[.ref h1.objs.size], []⟩) _ _ _
    exact list_sort_vals (s := { s with heap := h1.push (seqObj "list" vs.toArray 0), toks := tk }) hat S hL ⟨_, rfl, wpAny_pure ⟨_, rfl, h⟩⟩
end
open PySem.W in
def rSortD (K : PySem.W.Frag) : List V → Hp → VK → Prop := fun xs H Q => ∃ (a : Addr) (ps : List (D × V)), xs = [.ref a] ∧ (SqL K H a (ps.map (·.2)) ∨ SqT K H a (ps.map (·.2))) ∧ (∀ p ∈ ps, Dp K H p.2 p.1) ∧ AllAlike (ps.map (·.1)) ∧ Sortable (ps.map (·.1)) ∧ (∀ p ∈ ps, p.1.depth ≤ 64) ∧
  ∀ p, H p = none → Q (.ref p) (upd H p (.lst ((ps.mergeSort (dataLe false Prod.fst)).map (·.2))))
section
open PySem.Spec PyProof.Rows PySem.W
theorem vals_each {ps : List (D × V)} : ∀ {us : List Value}, Vals (ps.map (·.2)) us → EachIs (fun v (b : D × V) => RelV b.2 v) us ps := by
  induction ps with
  | nil => intro us h; cases h; exact .nil
  | cons p ps ih => intro us h; cases h with
    | cons a b => exact .cons a (ih b)
theorem each_vals {ps : List (D × V)} : ∀ {us : List Value}, EachIs (fun v (b : D × V) => RelV b.2 v) us ps → Vals (ps.map (·.2)) us := by
  induction ps with
  | nil => intro us h; cases h; exact .nil
  | cons p ps ih => intro us h; cases h with
    | cons a b => exact .cons a (ih b)
theorem call_sortD {X : Cx} (hu : X.A.units + 68 < cLine) : CallR X (.builtin "sorted") (rSortD X.K) := by
  intro pins s σ H xs us Q I r h
  obtain ⟨a, ps, rfl, hs, hdp, hal, hk, hdep, q⟩ := h
  obtain ⟨u, rfl, r1⟩ := vals1 r
  cases (show u = Value.ref a from r1)
  have src : ∃ (its : List Value) (T : String) (o : Obj) (n : Nat), Vals (ps.map (·.2)) its ∧ (T = "list" ∨ T = "tuple") ∧ s.heap.get? a = some o ∧ o.cls = .type T ∧ o.data = .seq its.toArray n ∧ (ps.map (·.2)).length ≤ sizeLine := by
    rcases hs with hs | hs
    · obtain ⟨its, rv, hl, hz⟩ := I.list hs
      obtain ⟨o, n, e1, e2, _, e3⟩ := hl
      exact ⟨its, "list", o, n, rv, .inl rfl, e1, e2, e3, hz⟩
    · obtain ⟨its, rv, hl, hz⟩ := I.tuple hs
      obtain ⟨o, e1, e2, n, e3⟩ := hl
      exact ⟨its, "tuple", o, n, rv, .inr rfl, e1, e2, e3, hz⟩
  obtain ⟨its, T, o, n, rv, hT, ho, hcl, hd, hz⟩ := src
  have hL : its.length ≤ sizeLine := by rw [← rv.length]; exact hz
  have ev := vals_each rv
  generalize hh1 : (s.heap.push (seqObj "list" #[] 0)).update s.heap.objs.size (Obj.mapSeq (· ++ its.toArray)) = h1
  have hsz : h1.objs.size = s.heap.objs.size + 1 := by rw [← hh1, Heap.size_update, size_push']
  have k1 : ∀ b u, s.heap.get? b = some u → h1.get? b = some u := fun b u e => by
    rw [← hh1, Heap.get?_update_ne _ _ _ _ (Nat.ne_of_lt (Heap.lt_size e))]
    exact Heap.get?_push_of_some _ e
  have hat : (h1.push (seqObj "list" its.toArray 0)).get? h1.objs.size = some (seqObj "list" its.toArray 0) := Heap.get?_push_size _ rfl
  have lt1 : ∀ {b u}, s.heap.get? b = some u → b ≠ h1.objs.size := fun e => Nat.ne_of_lt (by rw [hsz]; exact Nat.lt_succ_of_lt (Heap.lt_size e))
  have k2 : ∀ b u, s.heap.get? b = some u → (sortingHeap (h1.push (seqObj "list" its.toArray 0)) h1.objs.size its).get? b = some u := fun b u e => sortingHeap_old (lt1 e) (Heap.get?_push_of_some _ (k1 b u e))
  have er : EachIs (fun v (b : D × V) => ∃ as, Reads (sortingHeap (h1.push (seqObj "list" its.toArray 0)) h1.objs.size its) v b.1 as) its ps := (each_mem ev).mono fun v b ⟨h1', h2'⟩ => by
    obtain ⟨as, rd⟩ := Dp.reads I b.1 b.2 v (hdp b h2') h1'
    exact ⟨as, PyProof.Rows.Reads.keeps k2 rd⟩
  refine sorted_gen (κ := dataKind (sortingHeap (h1.push (seqObj "list" its.toArray 0)) h1.objs.size its) (ps.map (·.1))) (h1 := h1) (tk := s.toks) (vs := its) (fun {Q' E'} q' => collect_seqT hT ho hcl hd (by rw [hh1]; exact q') hL) hL ?_ ?_
  · refine SortsAt.data (s := { s with heap := sortingHeap (h1.push (seqObj "list" its.toArray 0)) h1.objs.size its }) (each_map (R := fun v d => ∃ as, Reads (sortingHeap (h1.push (seqObj "list" its.toArray 0)) h1.objs.size its) v d as) Prod.fst er) hal hk fun d hd => ?_
    obtain ⟨p, hp, rfl⟩ := List.mem_map.mp hd
    have := hdep p hp
    show X.A.units + 1 + 1 + _ < cLine
    omega
  · have eo := sortVals_data (h' := sortingHeap (h1.push (seqObj "list" its.toArray 0)) h1.objs.size its) (enc := Prod.fst) false ev er hal
    have rvo := each_vals eo
    obtain ⟨ep, he⟩ := sortedHeap_at (vs := its) (out := (sortVals (dataKind (sortingHeap (h1.push (seqObj "list" its.toArray 0)) h1.objs.size its) (ps.map (·.1))) false its its).toArray) hat
    refine ⟨.ref _, upd H h1.objs.size (.lst ((ps.mergeSort (dataLe false Prod.fst)).map (·.2))), I.laid (a := h1.objs.size) (t' := s.toks) (fun b u e => ?_) (by rw [hsz]; exact Nat.le_succ _) ⟨?_, _, ep, rvo, he⟩, rfl, q _ (I.hok.fresh (by rw [hsz]; exact Nat.le_succ _))⟩
    · rw [sortedHeap_old (lt1 e) (Heap.lt_size (Heap.get?_push_of_some _ (k1 b u e)))]
      exact Heap.get?_push_of_some _ (k1 b u e)
    · rw [List.length_map, List.length_mergeSort]
      rw [List.length_map] at hz
      exact hz
end
/-- what may be sorted: alike data; nonempty tuples, or neither tuples nor None -/
def tupNe : D → Bool
  | .tuple (_ :: _) => true
  | _ => false
def noTup : D → Bool
  | .tuple _ => false
  | .none => false
  | _ => true
def sortOk (ds : List D) : Bool := (ds.all fun d => ds.all fun e => PySem.W.alike d e) && (ds.all tupNe || ds.all noTup) && ds.all fun d => !d.hasDict && decide (d.depth ≤ 64)
def sortL (ds : List D) : List D := ds.mergeSort (PySem.W.dataLe false id)
def sortF : List D → Option Sl
  | [.list ds] => if sortOk ds = true then some (.ow (.list (sortL ds))) else none
  | [.tuple ds] => if sortOk ds = true then some (.ow (.list (sortL ds))) else none
  | _ => none
theorem sortOk_alike {ds : List D} (h : sortOk ds = true) : PySem.W.AllAlike ds ∧ PySem.W.Sortable ds ∧ ∀ d ∈ ds, d.hasDict = false ∧ d.depth ≤ 64 := by
  unfold sortOk at h
  simp only [Bool.and_eq_true, Bool.or_eq_true, List.all_eq_true, decide_eq_true_eq, Bool.not_eq_true'] at h
  obtain ⟨⟨h1, h2⟩, h3⟩ := h
  refine ⟨fun d hd e he => h1 d hd e he, ?_, h3⟩
  rcases h2 with h2 | h2
  · refine .inl fun d hd => ?_
    have := h2 d hd
    unfold tupNe at this
    split at this
    · exact ⟨_, _, rfl⟩
    · cases this
  · refine .inr fun d hd => ⟨fun e => ?_, fun xs e => ?_⟩
    · have := h2 d hd; subst e; cases this
    · have := h2 d hd; subst e; cases this
theorem rpAll_pairs {O : Addr → Prop} {H : Hp} : ∀ {ps : List (D × V)}, (∀ p ∈ ps, Rp O H p.1 p.2) → RpAll O H (ps.map (·.1)) (ps.map (·.2))
  | [], _ => rfl
  | p :: ps, h => ⟨_, _, rfl, h p List.mem_cons_self, rpAll_pairs fun q hq => h q (List.mem_cons_of_mem _ hq)⟩
theorem rpAll_zip {O : Addr → Prop} {H : Hp} : ∀ {ds : List D} {xs : List V}, RpAll O H ds xs → (ds.zip xs).map (·.1) = ds ∧ (ds.zip xs).map (·.2) = xs ∧ ∀ p ∈ ds.zip xs, Rp O H p.1 p.2
  | [], _, h => by cases (show _ = [] from h); exact ⟨rfl, rfl, fun _ h => by cases h⟩
  | d :: ds, _, ⟨y, ys, e, q, r⟩ => by
    subst e
    obtain ⟨h1, h2, h3⟩ := rpAll_zip r
    refine ⟨by rw [List.zip_cons_cons, List.map_cons, h1], by rw [List.zip_cons_cons, List.map_cons, h2], fun p hp => ?_⟩
    rw [List.zip_cons_cons] at hp
    rcases List.mem_cons.mp hp with e | hp
    · subst e; exact q
    · exact h3 p hp
theorem sort_pairs (ps : List (D × V)) : (ps.mergeSort (PySem.W.dataLe false Prod.fst)).map (·.1) = sortL (ps.map (·.1)) := by
  unfold sortL
  exact List.map_mergeSort fun a _ b _ => rfl
theorem ru_sort {K : PySem.W.Frag} : RuC (rSortD K) sortF := by
  intro O H vs ds s Q ot rd ho hQ
  have key : ∀ {xs : List V} {es : List D} {a : Addr}, (SqL K H a xs ∨ SqT K H a xs) → RpAll O H es xs → (if sortOk es = true then some (Sl.ow (.list (sortL es))) else none) = some s → rSortD K [.ref a] H Q := fun {xs es a} sq q hs => by
    split at hs
    · rename_i hok
      cases hs
      obtain ⟨h1, h2, h3⟩ := sortOk_alike hok
      obtain ⟨z1, z2, z3⟩ := rpAll_zip q
      refine ⟨a, es.zip xs, rfl, by rw [z2]; exact sq, fun p hp => ?_, by rw [z1]; exact h1, by rw [z1]; exact h2, fun p hp => ?_, fun p n => ?_⟩
      · have hm : p.1 ∈ es := by rw [← z1]; exact List.mem_map_of_mem hp
        exact Rp.dp p.1 p.2 (z3 p hp) (h3 _ hm).1
      · have hm : p.1 ∈ es := by rw [← z1]; exact List.mem_map_of_mem hp
        exact (h3 _ hm).2
      · have := rpAll_pairs (O := O) (H := H) (ps := (es.zip xs).mergeSort (PySem.W.dataLe false Prod.fst)) fun p hp => z3 p (List.mem_mergeSort.mp hp)
        rw [sort_pairs, z1] at this
        exact hQ _ _ (res_lst n this)
    · cases hs
  unfold sortF at ho
  split at ho
  · obtain ⟨v, rfl, r⟩ := rdl1 rd
    obtain ⟨a, xs, rfl, sq, q, _⟩ := rd_lst (K := K) r
    exact key (.inl sq) q ho
  · obtain ⟨v, rfl, r⟩ := rdl1 rd
    obtain ⟨a, xs, rfl, sq, q, _, _⟩ := rd_tup (K := K) r
    exact key (.inr sq) q ho
  · cases ho

/-! ### raise of an own class with a text -/
theorem dt_raiseO {X : Cx} {W : WX} {A : Act} {c j : Nat} {x m : Str} {p p2 pos pos' : Pos} (C : ExF X.K X.mg x) (hA : A.cls c = some (.ref (He.ga X.K x))) (hc : X.calm = true) (tk : Takes X W) (hg : Gl X x) (hdb : (x == ("__debug__" : Str)) = false := by decide) :
    DT X W A (.Raise (some (.Call (.Name x p) [.Constant (.str m) j p2] [] pos)) none pos') (raiseT c) :=
  ⟨(L2.ps_raise hc tk (L2.pmk_own PySem.F.excBase_ValueError C.ei C.gx C.kx (L2.raises_own C.sb C.ty) hg hdb)).imp fun D σ H ⟨O, g, k, r, F, e, Eo', q⟩ => Eo'.go.ex c g e.symm _ σ O H hA F⟩
/-- raise of an own class with a text that is made -/
def raiseE (c : Nat) (f : DnD) : DnT := fun g _ => f g fun _ g' => .exc c g'
theorem dt_raiseE {X : Cx} {W : WX} {A : Act} {c : Nat} {cc m : Bool} {x : Str} {e : Expr} {f : DnD} {p pos pos' : Pos} (C : ExF X.K X.mg x) (hA : A.cls c = some (.ref (He.ga X.K x))) (hc : X.calm = true) (tk : Takes X W) (hg : Gl X x) (he : DM m X W A cc e f)
    (hs : starEach [e] X.env = (false, eval e X.env) :: starEach [] X.env := by rfl) (hdb : (x == ("__debug__" : Str)) = false := by decide) :
    DT X W A (.Raise (some (.Call (.Name x p) [e] [] pos)) none pos') (raiseE c f) :=
  ⟨(L2.ps_raise hc tk (SkE.pmk_own1 PySem.F.excBase_ValueError C.ei C.gx C.kx (L2.raises_own C.sb C.ty) hg he.pe hs hdb)).imp fun D σ H ⟨O, g, k, r, F, e, Eo', q⟩ =>
    ⟨O, g, _, r, F, e, Eo'.go, fun v d O1 H1 g1 F1 gr1 p1 e1 => Eo'.go.ex c g1 e1.symm _ σ O1 H1 hA F1⟩⟩

open PySem L2
theorem room_v {k : Nat} {A : Around} (r : Room k A) : A.units + 68 < cLine := by have := r.un; omega
theorem room_w {k : Nat} {A : Around} (r : Room k A) : A.units + 66 < cLine := by have := r.un; omega
theorem bt_repr : bootBuiltins "repr" = some (.builtin "repr") := by decide +kernel
theorem bt_sorted : bootBuiltins "sorted" = some (.builtin "sorted") := PyProof.Rows.boot_sorted
set_option Elab.async false
set_option linter.all false
set_option maxRecDepth 100000
set_option maxHeartbeats 0
open PySem L2
def b__law_next : DnT :=
  (seqT (iffT (andB (binB eqB (binD ixD (borC 0) (conC (.int 2))) (conC (.int 0))) (binB ltB (binD ixD (borC 0) (conC (.int 1))) (opsD lenD (consC (binD ixD (borC 0) (conC (.int 0))) nilC))))
  (seqT (asgT 2 (shF (binD ixD (binD ixD (borC 0) (conC (.int 0))) (binD ixD (borC 0) (conC (.int 1))))))
  (seqT (augT 0 (conC (.int 1)) (conC (.int 1)) (fun i j => i + j))
  (iffT (binB geB (borC 2) (binD powD (conC (.int 10)) (conC (.int 18))))
  (subT 0 (varC 2) (conC (.int 2)))
  (subT 0 (binD modD (opsD intD (consC (fz (binF addS (fz (binF addS (binD mulD (binD ixD (borC 0) (conC (.int 3))) (conC (.int 48271))) (binD modD (opsD intD (consC (borC 2) nilC)) (conC (.int 2147483647))))) (conC (.int 7)))) nilC)) (conC (.int 2147483647))) (conC (.int 3))))))
  skipT)
  (seqT (iffT (binB gtB (binD ixD (borC 0) (conC (.int 2))) (conC (.int 0)))
  (seqT (asgT 3 (shF (binD modD (opsD intD (consC (binD ixD (borC 0) (conC (.int 2))) nilC)) (borC 1))))
  (seqT (subT 0 (binD fdvD (binD ixD (borC 0) (conC (.int 2))) (borC 1)) (conC (.int 2)))
  (retV 3)))
  skipT)
  (seqT (subT 0 (binD modD (opsD intD (consC (fz (binF addS (binD mulD (binD ixD (borC 0) (conC (.int 3))) (conC (.int 69621))) (conC (.int 12345)))) nilC)) (conC (.int 2147483647))) (conC (.int 3)))
  (retT (shF (binD modD (opsD intD (consC (binD fdvD (binD ixD (borC 0) (conC (.int 3))) (conC (.int 7))) nilC)) (borC 1)))))))
def d__law_next : Fd := fnD 4 [0] b__law_next
def b__law_same (r : Fd) : DnT :=
  (seqT (iffT (binB isNoneB (borC 1) (conC .none))
  (retT (shF (binD (opBD isNoneB) (borC 0) (conC .none))))
  skipT)
  (seqT (iffT (truB (isiC ["bool"] (borC 1)))
  (retT (shF (andV (isiC ["bool"] (borC 0)) (binD (opBD eqB) (borC 0) (borC 1)))))
  skipT)
  (seqT (iffT (truB (isiC ["int"] (borC 1)))
  (retT (shF (andV (isiC ["int"] (borC 0)) (andV (notV (isiC ["bool"] (borC 0))) (binD (opBD eqB) (borC 0) (borC 1))))))
  skipT)
  (seqT (iffT (truB (isiC ["str"] (borC 1)))
  (retT (shF (andV (isiC ["str"] (borC 0)) (binD (opBD eqB) (borC 0) (borC 1)))))
  skipT)
  (seqT (iffT (andB (truB (isiC ["tuple"] (borC 1))) (notB (truB (isiC ["tuple"] (borC 0)))))
  (retT (shF (conC (.bool false))))
  skipT)
  (seqT (iffT (andB (truB (isiC ["list"] (borC 1))) (notB (truB (isiC ["list"] (borC 0)))))
  (retT (shF (conC (.bool false))))
  skipT)
  (seqT (iffT (binB neB (opsD lenD (consC (borC 0) nilC)) (opsD lenD (consC (borC 1) nilC)))
  (retT (shF (conC (.bool false))))
  skipT)
  (seqT (forT (rng1I (opsD lenD (consC (borC 1) nilC))) (nameG 2)
  (iffT (notB (truB (fz (callC r (consC (binD ixD (borC 0) (borC 2)) (consC (binD ixD (borC 1) (borC 2)) nilC))))))
  (retT (shF (conC (.bool false))))
  skipT))
  (retT (shF (conC (.bool true))))))))))))
def d__law_same : Nat → Fd
  | 0 => fun _ => .err
  | n + 1 => fnD 3 [] (b__law_same (d__law_same n))
def b__law_changed (r : Fd) : DnT :=
  (seqT (iffT (truB (isiC ["bool"] (borC 1)))
  (retT (shF (binD ixD (fz (lstC (consC (notV (borC 1)) (consC (opsD intD (consC (borC 1) nilC)) nilC)))) (fz (callRC 0 d__law_next (consC (conC (.int 2)) nilC))))))
  skipT)
  (seqT (iffT (orB (binB isNoneB (borC 1) (conC .none)) (truB (isiC ["int"] (borC 1))))
  (retT (shF (binD ixD (fz (lstC (consC (fz (binF addS (orV (varC 1) (conC (.int 0))) (conC (.int 1)))) (consC (binD subD (orV (varC 1) (conC (.int 0))) (conC (.int 1))) (consC (conC (.int 0)) (consC (conC .none) (consC (binD (opBD eqB) (borC 1) (conC (.int 1))) (consC (opsD strD (consC (borC 1) nilC)) (consC (binD mulD (conC (.int 2)) (orV (varC 1) (conC (.int 1)))) nilC))))))))) (fz (callRC 0 d__law_next (consC (conC (.int 7)) nilC))))))
  skipT)
  (seqT (iffT (truB (isiC ["str"] (borC 1)))
  (seqT (asgT 5 (lstC (consC (fz (slcC (borC 1) (atO (conC (.int 1))) noO)) (consC (fz (binF addS (borC 1) (conC (.str "a")))) (consC (fz (unF revF (borC 1))) (consC (fz (binF addS (conC (.str "b")) (borC 1))) (consC (conC (.str "")) (consC (fz (slcC (borC 1) noO (atO (unD negD (conC (.int 1)))))) (consC (conC (.str "left")) (consC (conC (.int 3)) (consC (conC (.str "in")) nilC)))))))))))
  (retT (shF (binD ixD (varC 5) (fz (callRC 0 d__law_next (consC (opsD lenD (consC (borC 5) nilC)) nilC)))))))
  skipT)
  (seqT (iffT (andB (truB (isiC ["tuple"] (borC 1))) (andB (binB neB (borC 1) (tupC nilC)) (binB gtB (fz (callRC 0 d__law_next (consC (conC (.int 4)) nilC))) (conC (.int 0)))))
  (seqT (asgT 2 (callRC 0 d__law_next (consC (opsD lenD (consC (borC 1) nilC)) nilC)))
  (retT (binF addS (fz (binF addS (fz (slcC (borC 1) noO (atO (borC 2)))) (tupC (consC (fz (callRC 0 r (consC (binD ixD (borC 1) (borC 2)) nilC))) nilC)))) (fz (slcC (borC 1) (atO (fz (binF addS (borC 2) (conC (.int 1))))) noO)))))
  skipT)
  (seqT (iffT (notB (truB (isiC ["tuple"] (borC 1))))
  (retT (shF (tupC nilC)))
  skipT)
  (seqT (asgT 2 (callRC 0 d__law_next (consC (fz (binF addS (opsD lenD (consC (borC 1) nilC)) (conC (.int 1)))) nilC)))
  (seqT (asgT 3 (callRC 0 d__law_next (consC (fz (binF addS (opsD lenD (consC (borC 1) nilC)) (conC (.int 1)))) nilC)))
  (seqT (asgT 4 (lstC (consC (fz (binF addS (fz (slcC (borC 1) noO (atO (borC 2)))) (fz (slcC (borC 1) (atO (fz (binF addS (borC 2) (conC (.int 1))))) noO)))) (consC (fz (binF addS (borC 1) (fz (slcC (borC 1) noO (atO (conC (.int 1))))))) (consC (fz (unF revF (borC 1))) (consC (fz (binF addS (fz (slcC (borC 1) (atO (borC 2)) noO)) (fz (slcC (borC 1) noO (atO (borC 2)))))) (consC (fz (opsF listF (consC (borC 1) nilC))) (consC (fz (slcC (borC 1) noO (atO (borC 2)))) (consC (tupC nilC) (consC (fz (binF addS (borC 1) (tupC (consC (conC (.int 0)) nilC)))) nilC))))))))))
  (seqT (iffT (chnB ltB ltB (borC 2) (borC 3) (opsD lenD (consC (borC 1) nilC)))
  (asgT 4 (binF addS (varC 4) (fz (lcC [6] (rng1I (conC (.int 3))) (nameG 6) yesB (fz (binF addS (fz (binF addS (fz (binF addS (fz (binF addS (fz (slcC (borC 1) noO (atO (borC 2)))) (fz (slcC (borC 1) (atO (borC 3)) (atO (fz (binF addS (borC 3) (conC (.int 1))))))))) (fz (slcC (borC 1) (atO (fz (binF addS (borC 2) (conC (.int 1))))) (atO (borC 3)))))) (fz (slcC (borC 1) (atO (borC 2)) (atO (fz (binF addS (borC 2) (conC (.int 1))))))))) (fz (slcC (borC 1) (atO (fz (binF addS (borC 3) (conC (.int 1))))) noO))))))))
  skipT)
  (retT (shF (binD ixD (varC 4) (fz (callRC 0 d__law_next (consC (opsD lenD (consC (borC 4) nilC)) nilC)))))))))))))))
def d__law_changed : Nat → Fd
  | 0 => fun _ => .err
  | n + 1 => fnD 7 [0] (b__law_changed (d__law_changed n))
def b__law_ints (r : Fd) : DnT :=
  (seqT (iffT (orB (truB (isiC ["bool"] (borC 0))) (notB (truB (isiC ["int", "tuple"] (borC 0)))))
  (retT (lstC nilC))
  skipT)
  (seqT (iffT (truB (isiC ["int"] (borC 0)))
  (retT (lstC (consC (varC 0) nilC)))
  skipT)
  (seqT (asgT 1 (lstC nilC))
  (seqT (forT (seqI (varC 0)) (nameG 2)
  (asgT 1 (binF addS (varC 1) (fz (lcC [3] (seqI (fz (callC r (consC (varC 2) nilC)))) (nameG 3) (binB niB (borC 3) (borC 1)) (varC 3))))))
  (retV 1)))))
def d__law_ints : Nat → Fd
  | 0 => fun _ => .err
  | n + 1 => fnD 4 [] (b__law_ints (d__law_ints n))
def b__law_exchanged (r : Fd) : DnT :=
  (seqT (iffT (orB (truB (isiC ["bool"] (borC 0))) (notB (truB (isiC ["int", "tuple"] (borC 0)))))
  (retV 0)
  skipT)
  (seqT (iffT (truB (isiC ["int"] (borC 0)))
  (retT (shF (ifC (binB eqB (borC 0) (borC 1)) (varC 2) (ifC (binB eqB (borC 0) (borC 2)) (varC 1) (varC 0)))))
  skipT)
  (retT (shF (opsD tupX (consC (fz (lcC [3] (seqI (varC 0)) (nameG 3) yesB (fz (callC r (consC (varC 3) (consC (varC 1) (consC (varC 2) nilC))))))) nilC))))))
def d__law_exchanged : Nat → Fd
  | 0 => fun _ => .err
  | n + 1 => fnD 4 [] (b__law_exchanged (d__law_exchanged n))
def b__law_cut (r : Fd) : DnT :=
  (seqT (iffT (orB (notB (truB (isiC ["tuple"] (borC 1)))) (binB eqB (borC 1) (tupC nilC)))
  (retV 1)
  skipT)
  (seqT (iffT (binB neB (fz (lcC [5] (seqI (varC 1)) (nameG 5) (notB (truB (isiC ["str"] (borC 5)))) (varC 5))) (fz (lstC nilC)))
  (seqT (asgT 2 (callRC 0 d__law_next (consC (opsD lenD (consC (borC 1) nilC)) nilC)))
  (retT (binF addS (fz (binF addS (fz (slcC (borC 1) noO (atO (borC 2)))) (tupC (consC (fz (callRC 0 r (consC (binD ixD (borC 1) (borC 2)) nilC))) nilC)))) (fz (slcC (borC 1) (atO (fz (binF addS (borC 2) (conC (.int 1))))) noO)))))
  skipT)
  (seqT (asgT 2 (callRC 0 d__law_next (consC (opsD lenD (consC (borC 1) nilC)) nilC)))
  (seqT (asgT 3 (callRC 0 d__law_next (consC (fz (binF addS (opsD lenD (consC (binD ixD (borC 1) (borC 2)) nilC)) (conC (.int 1)))) nilC)))
  (seqT (asgT 4 (lstC (consC (fz (binF addS (fz (binF addS (fz (slcC (borC 1) noO (atO (borC 2)))) (tupC (consC (fz (slcC (binD ixD (borC 1) (borC 2)) noO (atO (borC 3)))) (consC (fz (slcC (binD ixD (borC 1) (borC 2)) (atO (borC 3)) noO)) nilC))))) (fz (slcC (borC 1) (atO (fz (binF addS (borC 2) (conC (.int 1))))) noO)))) (consC (fz (binF addS (fz (binF addS (fz (slcC (borC 1) noO (atO (borC 2)))) (tupC (consC (joinC (conC (.str "")) (fz (slcC (borC 1) (atO (borC 2)) (atO (fz (binF addS (borC 2) (conC (.int 2)))))))) nilC)))) (fz (slcC (borC 1) (atO (fz (binF addS (borC 2) (conC (.int 2))))) noO)))) nilC))))
  (seqT (asgT 4 (binF addS (borC 4) (fz (lstC (consC (tupC (consC (joinC (conC (.str "")) (borC 1)) nilC)) (consC (opsD tupX (consC (joinC (conC (.str "")) (borC 1)) nilC)) (consC (fz (binF addS (fz (binF addS (fz (slcC (borC 1) noO (atO (borC 2)))) (tupC (consC (conC (.str "")) nilC)))) (fz (slcC (borC 1) (atO (borC 2)) noO)))) (consC (fz (binF addS (fz (binF addS (fz (slcC (borC 1) noO (atO (borC 2)))) (fz (unF revF (fz (slcC (borC 1) (atO (borC 2)) (atO (fz (binF addS (borC 2) (conC (.int 2))))))))))) (fz (slcC (borC 1) (atO (fz (binF addS (borC 2) (conC (.int 2))))) noO)))) nilC))))))))
  (retT (shF (binD ixD (varC 4) (fz (callRC 0 d__law_next (consC (opsD lenD (consC (borC 4) nilC)) nilC))))))))))))
def d__law_cut : Nat → Fd
  | 0 => fun _ => .err
  | n + 1 => fnD 6 [0] (b__law_cut (d__law_cut n))
def b__law_turned_about : DnT :=
  (seqT (asgT 2 (callC (d__law_ints 40) (consC (varC 1) nilC)))
  (seqT (asgT 3 (callRC 0 d__law_next (consC (conC (.int 5)) nilC)))
  (seqT (iffT (andB (binB ltB (borC 3) (conC (.int 3))) (binB neB (borC 2) (fz (lstC nilC))))
  (seqT (asgT 4 (shF (binD ixD (varC 2) (fz (callRC 0 d__law_next (consC (opsD lenD (consC (borC 2) nilC)) nilC))))))
  (seqT (asgT 5 (ifC (binB eqB (borC 3) (conC (.int 0))) (binF addS (borC 4) (conC (.int 1))) (shF (binD ixD (varC 2) (fz (callRC 0 d__law_next (consC (opsD lenD (consC (borC 2) nilC)) nilC)))))))
  (retT (callC (d__law_exchanged 40) (consC (varC 1) (consC (varC 4) (consC (varC 5) nilC)))))))
  skipT)
  (seqT (iffT (binB eqB (borC 3) (conC (.int 3)))
  (retT (binF addS (fz (slcC (borC 1) noO (atO (conC (.int 1))))) (fz (ifC (binB gtB (opsD lenD (consC (borC 1) nilC)) (conC (.int 2))) (callRC 0 (d__law_cut 40) (consC (fz (slcC (borC 1) (atO (conC (.int 1))) noO)) nilC)) (shF (opsD tupX (consC (fz (lcC [8] (seqI (fz (slcC (borC 1) (atO (conC (.int 1))) noO))) (nameG 8) yesB (fz (callRC 0 (d__law_cut 40) (consC (varC 8) nilC))))) nilC)))))))
  skipT)
  (seqT (parT 6 7 (consC (fz (callRC 0 d__law_next (consC (opsD lenD (consC (borC 1) nilC)) nilC))) (consC (fz (callRC 0 d__law_next (consC (opsD lenD (consC (borC 1) nilC)) nilC))) nilC)))
  (seqT (iffT (andB (binB eqB (opsD lenD (consC (borC 1) nilC)) (conC (.int 2))) (andB (truB (isiC ["tuple"] (binD ixD (borC 1) (conC (.int 1))))) (binB neB (binD ixD (borC 1) (conC (.int 1))) (tupC nilC))))
  (seqT (parT 6 7 (consC (fz (callRC 0 d__law_next (consC (opsD lenD (consC (binD ixD (borC 1) (conC (.int 1))) nilC)) nilC))) (consC (fz (callRC 0 d__law_next (consC (opsD lenD (consC (binD ixD (borC 1) (conC (.int 1))) nilC)) nilC))) nilC)))
  (retT (shF (tupC (consC (binD ixD (borC 1) (conC (.int 0))) (consC (fz (binF addS (fz (binF addS (fz (slcC (binD ixD (borC 1) (conC (.int 1))) noO (atO (borC 6)))) (fz (slcC (binD ixD (borC 1) (conC (.int 1))) (atO (borC 7)) (atO (fz (binF addS (borC 7) (conC (.int 1))))))))) (fz (slcC (binD ixD (borC 1) (conC (.int 1))) (atO (fz (binF addS (borC 6) (conC (.int 1))))) noO)))) nilC))))))
  skipT)
  (retT (ifC (andB (binB gtB (borC 6) (conC (.int 0))) (binB gtB (borC 7) (conC (.int 0)))) (binF addS (fz (binF addS (fz (slcC (borC 1) noO (atO (borC 6)))) (fz (slcC (borC 1) (atO (borC 7)) (atO (fz (binF addS (borC 7) (conC (.int 1))))))))) (fz (slcC (borC 1) (atO (fz (binF addS (borC 6) (conC (.int 1))))) noO))) (shF (varC 1))))))))))
def d__law_turned_about : Fd := fnD 9 [0] b__law_turned_about
def b__law_odd : DnT :=
  (seqT (asgT 2 (lstC (consC (conC .none) (consC (conC (.str "")) (consC (conC (.str "yes")) (consC (fz dctC) (consC (tupC nilC) (consC (fz (slcC (borC 1) noO (atO (conC (.int 1))))) (consC (fz (opsF listF (consC (borC 1) nilC))) (consC (fz (binF addS (borC 1) (tupC (consC (conC (.int 0)) nilC)))) (consC (fz (binF addS (tupC (consC (fz (lstC (consC (binD ixD (borC 1) (conC (.int 0))) nilC))) nilC)) (fz (slcC (borC 1) (atO (conC (.int 1))) noO)))) (consC (fz (binF addS (tupC (consC (conC (.str "none such")) nilC)) (fz (slcC (borC 1) (atO (conC (.int 1))) noO)))) (consC (conC (.int 7)) nilC)))))))))))))
  (seqT (asgT 3 (callRC 0 d__law_next (consC (conC (.int 9)) nilC)))
  (seqT (iffT (binB gtB (borC 3) (conC (.int 4)))
  (retT (callRC 0 d__law_turned_about (consC (varC 1) nilC)))
  skipT)
  (retT (ifC (binB eqB (borC 3) (conC (.int 0))) (shF (binD ixD (varC 2) (fz (callRC 0 d__law_next (consC (opsD lenD (consC (borC 2) nilC)) nilC))))) (callRC 0 (d__law_changed 40) (consC (varC 1) nilC)))))))
def d__law_odd : Fd := fnD 4 [0] b__law_odd
set_option Elab.async false
set_option linter.all false
set_option maxRecDepth 100000
set_option maxHeartbeats 0
open PySem L2
def b_told_alike : DnT :=
  (retT (shF (andV (isiC ["tuple"] (borC 0)) (andV (binD (opBD eqB) (opsD lenD (consC (borC 0) nilC)) (opsD lenD (consC (borC 1) nilC))) (binD (opBD eqB) (opsD reprD (consC (borC 0) nilC)) (opsD reprD (consC (borC 1) nilC)))))))
def d_told_alike : Fd := fnD 2 [] b_told_alike
set_option Elab.async false
set_option linter.all false
set_option maxRecDepth 100000
set_option maxHeartbeats 0
open PySem L2
def yes_UnfitShape : Nat → Option Bool
  | 0 => some true
  | 1 => some false
  | _ => none
def b_ball : DnT :=
  (seqT (iffT (binB ltB (borC 0) (conC (.int 1)))
  (raiseT 0)
  skipT)
  (seqT (iffT (binB gtB (borC 0) (conC (.int 6)))
  (raiseT 1)
  skipT)
  (seqT (asgT 1 (shF (opsD tupX (consC (fz (lcC [3] (rng1I (borC 0)) (nameG 3) yesB (fz (binF addS (conC (.str "n")) (opsD strD (consC (borC 3) nilC)))))) nilC))))
  (seqT (asgT 2 (ifC (binB gtB (borC 0) (conC (.int 1))) (lcC [3] (rng1I (borC 0)) (nameG 3) yesB (fz (binF addS (fz (slcC (borC 1) noO (atO (borC 3)))) (fz (slcC (borC 1) (atO (fz (binF addS (borC 3) (conC (.int 1))))) noO))))) (lstC nilC)))
  (retT (shF (tupC (consC (conC (.str "shape")) (consC (tupC (consC (varC 1) nilC)) (consC (opsD tupX (consC (fz (opsF sortF (consC (borC 2) nilC))) nilC)) nilC))))))))))
def d_ball : Fd := fnD 4 [] b_ball
def b_judge_ball : DnT :=
  (retT (callC d_told_alike (consC (varC 1) (consC (fz (callC d_ball (consC (varC 0) nilC))) nilC))))
def d_judge_ball : Fd := fnD 2 [] b_judge_ball
def b__law_unfit : DnT :=
  (seqT (forT (seqI (fz (lstC (consC (conC (.bool false)) (consC (conC (.bool true)) nilC))))) (nameG 1)
  (tryW 2 yes_UnfitShape
  (seqT (iffT (truB (borC 1))
  (dropT (fz (callC d_judge_ball (consC (varC 0) (consC (conC .none) nilC)))))
  (dropT (fz (callC d_ball (consC (varC 0) nilC)))))
  (retT (shF (conC (.bool false)))))))
  (retT (shF (conC (.bool true)))))
def d__law_unfit : Fd := fnD 3 [] b__law_unfit
def b__law_parts : DnT :=
  (seqT (asgT 1 (lstC (consC (tupC nilC) nilC)))
  (seqT (forT (seqI (fz (opsF sortF (consC (borC 0) nilC)))) (nameG 2)
  (asgT 1 (binF addS (varC 1) (fz (lcC [3] (seqI (varC 1)) (nameG 3) yesB (fz (binF addS (borC 3) (tupC (consC (varC 2) nilC)))))))))
  (retT (lcC [3] (seqI (varC 1)) (nameG 3) (binB neB (borC 3) (tupC nilC)) (varC 3)))))
def d__law_parts : Fd := fnD 4 [] b__law_parts
def b__law_accepts : DnT :=
  (seqT (asgT 2 (shF (opsD tupX (consC (fz (lcC [5] (rng1I (borC 0)) (nameG 5) yesB (fz (binF addS (conC (.str "n")) (opsD strD (consC (borC 5) nilC)))))) nilC))))
  (seqT (asgT 3 (lcC [4] (seqI (fz (callC d__law_parts (consC (varC 2) nilC)))) (nameG 4) (binB eqB (opsD lenD (consC (borC 4) nilC)) (binD subD (borC 0) (conC (.int 1)))) (varC 4)))
  (retT (callC (d__law_same 40) (consC (varC 1) (consC (tupC (consC (conC (.str "shape")) (consC (tupC (consC (varC 2) nilC)) (consC (opsD tupX (consC (fz (opsF sortF (consC (borC 3) nilC))) nilC)) nilC)))) nilC))))))
def d__law_accepts : Fd := fnD 6 [] b__law_accepts
def b_law : DnT :=
  (seqT (asgT 1 (lstC (consC (fz (opsF listF (consC (borC 0) nilC))) (consC (conC (.int 0)) (consC (conC (.int 0)) (consC (conC (.int 1)) nilC))))))
  (seqT (asgT 2 (lstC nilC))
  (seqT (forT (rng1I (conC (.int 3))) (nameG 3)
  (seqT (asgT 4 (binF addS (conC (.int 1)) (fz (callRC 1 d__law_next (consC (conC (.int 6)) nilC)))))
  (seqT (asgT 5 (callC d_ball (consC (varC 4) nilC)))
  (seqT (iffT (orB (notB (truB (fz (callC d__law_accepts (consC (varC 4) (consC (varC 5) nilC)))))) (binB noBB (fz (callC d_judge_ball (consC (varC 4) (consC (varC 5) nilC)))) (conC (.bool true))))
  (retT (shF (conC (.bool false))))
  skipT)
  (seqT (iffT (notB (truB (fz (callC d__law_unfit (consC (conC (.int 0)) nilC)))))
  (retT (shF (conC (.bool false))))
  skipT)
  (seqT (asgT 2 (binF addS (fz (slcC (borC 2) (atO (unD negD (conC (.int 3)))) noO)) (fz (lstC (consC (varC 5) nilC)))))
  (forT (rng1I (fz (binF addS (conC (.int 8)) (opsD lenD (consC (borC 2) nilC))))) (nameG 6)
  (seqT (asgT 7 (ifC (binB ltB (borC 6) (conC (.int 8))) (callRC 1 d__law_odd (consC (varC 5) nilC)) (shF (binD ixD (borC 2) (binD subD (borC 6) (conC (.int 8)))))))
  (iffT (notB (truB (fz (callC (d__law_same 40) (consC (fz (callC d_judge_ball (consC (varC 4) (consC (varC 7) nilC)))) (consC (fz (callC d__law_accepts (consC (varC 4) (consC (varC 7) nilC)))) nilC))))))
  (retT (shF (conC (.bool false))))
  skipT)))))))))
  (retT (shF (conC (.bool true)))))))
def d_law : Fd := fnD 8 [] b_law
set_option Elab.async false
set_option linter.all false
set_option maxRecDepth 100000
set_option maxHeartbeats 0
open PySem L2
def top (i : Nat) : Stmt := PySem.Challenge.pw_shapewhole_k71_balls_and_spheres.main.body.getD i (.Pass ⟨0, 0, 0, 0⟩)
def clsZ (K : PySem.W.Frag) : Nat → Option Value
  | 0 => some (.ref (He.ga K "UnfitShape"))
  | 1 => some (.ref (He.ga K "TooWide"))
  | _ => none
structure Fx (K : PySem.W.Frag) (mg : Str → Option Value) : Prop where
  at_ball : DefAt K mg "ball" (top 6)
  at__law_next : DefAt K mg "_law_next" (top 9)
  at_told_alike : DefAt K mg "told_alike" (top 5)
  at_judge_ball : DefAt K mg "judge_ball" (top 7)
  at__law_unfit : DefAt K mg "_law_unfit" (top 19)
  at__law_same : DefAt K mg "_law_same" (top 10)
  at__law_parts : DefAt K mg "_law_parts" (top 17)
  at__law_accepts : DefAt K mg "_law_accepts" (top 18)
  at__law_ints : DefAt K mg "_law_ints" (top 12)
  at__law_exchanged : DefAt K mg "_law_exchanged" (top 13)
  at__law_cut : DefAt K mg "_law_cut" (top 14)
  at__law_turned_about : DefAt K mg "_law_turned_about" (top 15)
  at__law_changed : DefAt K mg "_law_changed" (top 11)
  at__law_odd : DefAt K mg "_law_odd" (top 16)
  at_law : DefAt K mg "law" (top 20)
  fr_ValueError : mg "ValueError" = none
  fr_bool : mg "bool" = none
  fr_int : mg "int" = none
  fr_isinstance : mg "isinstance" = none
  fr_len : mg "len" = none
  fr_list : mg "list" = none
  fr_range : mg "range" = none
  fr_repr : mg "repr" = none
  fr_sorted : mg "sorted" = none
  fr_str : mg "str" = none
  fr_tuple : mg "tuple" = none
  ex_UnfitShape : ExF K mg "UnfitShape"
  ex_TooWide : ExF K mg "TooWide"
  xm_UnfitShape_UnfitShape : PySem.W.exmOne K (.ref (He.ga K "UnfitShape")) (.ref (He.ga K "UnfitShape")) = some true
  xm_TooWide_UnfitShape : PySem.W.exmOne K (.ref (He.ga K "TooWide")) (.ref (He.ga K "UnfitShape")) = some false
theorem hyes_UnfitShape {K : PySem.W.Frag} {mg : Str → Option Value} (E : Fx K mg) {A : Act} (hA : A.cls = clsZ K) : ∀ c b, yes_UnfitShape c = some b → ∃ D, A.cls c = some (.ref D) ∧ PySem.W.exmOne K (.ref D) (.ref (He.ga K "UnfitShape")) = some b ∧ (b = true → ExcC K D ∧ PySem.W.kitOne K (.ref D) (.type "ValueError") = some true)
  | 0, _, h => ⟨_, congrFun hA 0, (Option.some.inj h) ▸ E.xm_UnfitShape_UnfitShape, fun _ => ⟨E.ex_UnfitShape.xc, E.ex_UnfitShape.kv⟩⟩
  | 1, _, h => ⟨_, congrFun hA 1, (Option.some.inj h) ▸ E.xm_TooWide_UnfitShape, fun _ => ⟨E.ex_TooWide.xc, E.ex_TooWide.kv⟩⟩
  | _ + 2, _, h => nomatch h
theorem sc_ball : FnScope ["size", "face", "sphere", "k"] ["size"] (defScope (top 6)) := ⟨rfl, rfl, rfl, by decide +kernel, rfl, by decide +kernel, by decide +kernel⟩
theorem ok_ball {P : Program} {w : World} {K : PySem.W.Frag} {mg : Str → Option Value} {base : Heap} (E : Fx K mg) : Fok P w K mg base (clsZ K) 1 "ball" 1 [] d_ball :=
  fok_of (k := 0) E.at_ball sc_ball rfl (fun _ _ _ _ _ _ us hl => match us, hl with | [_], _ => rfl) fun f cdv A0 outer s H E' gd hr A hA => by
        have hu := room_u hr
        have hu0 := hr.units
        delta b_ball
        exact (dts_cons (dt_if (db_cmp op_lt ru_iiB (DR.mm (dr_var (pv 0))) (DS.mm ds_int) (nomark _))
  (dts_one (dt_raiseO (c := 0) E.ex_UnfitShape (congrFun hA 0) (by rfl) tkF (by rfl)))
  dts_nil)
  (dts_cons (dt_if (db_cmp op_gt ru_iiB (DR.mm (dr_var (pv 0))) (DS.mm ds_int) (nomark _))
  (dts_one (dt_raiseO (c := 1) E.ex_TooWide (congrFun hA 1) (by rfl) tkF (by rfl)))
  dts_nil)
  (dts_cons (dt_set (i := 1) sc_ball.nd (by rfl) (by first | exact .inl rfl | exact .inr rfl) (DS.f (ds_tuple (by rfl) (by rfl) E.fr_tuple (dl_cons (m := false) (DS.mm (DF.s (df_lc (own := [("k", 3)]) (by rfl) sc_ball.nd  (di_rng1 (by rfl) E.fr_range (DR.mm (dr_var (pv 0)))) (blkOk_by (by kernel_rfl)) (by decide) (fun s H C cl fp A' hA' => have hA := hA'.trans hA; (dg_name (i := 3) sc_ball.nd (by rfl) (by first | exact .inl rfl | exact .inr rfl))) (fun s H C cl fp A' hA' => have hA := hA'.trans hA; dts_yes) (fun s H C cl fp A' hA' => have hA := hA'.trans hA; (DF.s (df_op op_addS ru_addS (DS.mm ds_str) (DS.mm (ds_callTy ru_str call_strX (by rfl) E.fr_str bt_str (dl_cons (m := false) (DR.mm (dr_var (pv 3))) dl_nil))))))))) dl_nil))))
  (dts_cons (dt_set (i := 2) sc_ball.nd (by rfl) (by first | exact .inl rfl | exact .inr rfl) (df_if (db_cmp op_gt ru_iiB (DR.mm (dr_var (pv 0))) (DS.mm ds_int) (nomark _)) (df_lc (own := [("k", 3)]) (by rfl) sc_ball.nd  (di_rng1 (by rfl) E.fr_range (DR.mm (dr_var (pv 0)))) (blkOk_by (by kernel_rfl)) (by decide) (fun s H C cl fp A' hA' => have hA := hA'.trans hA; (dg_name (i := 3) sc_ball.nd (by rfl) (by first | exact .inl rfl | exact .inr rfl))) (fun s H C cl fp A' hA' => have hA := hA'.trans hA; dts_yes) (fun s H C cl fp A' hA' => have hA := hA'.trans hA; (DF.s (df_op op_addS ru_addS (DS.mm (DF.s (df_slc (DR.mm (dr_var (pv 1))) do_none (do_some (DR.mm (dr_var (pv 3))))))) (DS.mm (DF.s (df_slc (DR.mm (dr_var (pv 1))) (do_some (DS.mm (DF.s (df_op op_addS ru_addS (DR.mm (dr_var (pv 3))) (DS.mm ds_int))))) do_none))))))) (df_lst (dl_nil (m := true)))))
  (dts_one (dt_ret (DS.f (ds_tup (dl_cons (m := true) (DS.mm ds_str) (dl_cons (m := true) (DS.mm (ds_tup (dl_cons (m := true) (DS.mm (ds_var (pv 1))) dl_nil))) (dl_cons (m := true) (DS.mm (ds_tuple (by rfl) (by rfl) E.fr_tuple (dl_cons (m := false) (DS.mm (DF.s (df_callB ru_sort (call_sortD (room_v hr)) (by rfl) E.fr_sorted bt_sorted (dl_cons (m := false) (DR.mm (dr_var (pv 2))) dl_nil)))) dl_nil))) dl_nil)))))))))))
theorem sc__law_next : FnScope ["state", "limit", "cell", "value"] ["state", "limit"] (defScope (top 9)) := ⟨rfl, rfl, rfl, by decide +kernel, rfl, by decide +kernel, by decide +kernel⟩
theorem ok__law_next {P : Program} {w : World} {K : PySem.W.Frag} {mg : Str → Option Value} {base : Heap} (E : Fx K mg) : Fok P w K mg base (clsZ K) 1 "_law_next" 2 [0] d__law_next :=
  fok_of (k := 0) E.at__law_next sc__law_next rfl (fun _ _ _ _ _ _ us hl => match us, hl with | [_, _], _ => rfl) fun f cdv A0 outer s H E' gd hr A hA => by
        have hu := room_u hr
        have hu0 := hr.units
        delta b__law_next
        exact (dts_cons (dt_if (DW.bb (dw_and (db_cmp (op_eqD hu0) ru_eq (DS.mm (ds_ix ix_seq ru_ix (DR.mm (dr_var (pv 0))) (DS.mm ds_int) (fun _ _ => rfl))) (DS.mm ds_int) (nomark _)) (dw_and1 (db_cmp op_lt ru_iiB (DS.mm (ds_ix ix_seq ru_ix (DR.mm (dr_var (pv 0))) (DS.mm ds_int) (fun _ _ => rfl))) (DS.mm (ds_callB ru_len call_len (by rfl) E.fr_len bt_len (dl_cons (m := false) (DS.mm (ds_ix ix_seq ru_ix (DR.mm (dr_var (pv 0))) (DS.mm ds_int) (fun _ _ => rfl))) dl_nil))) (nomark _)))))
  (dts_cons (dt_set (i := 2) sc__law_next.nd (by rfl) (by first | exact .inl rfl | exact .inr rfl) (DS.f (ds_ix ix_seq ru_ix (DS.mm (ds_ix ix_seq ru_ix (DR.mm (dr_var (pv 0))) (DS.mm ds_int) (fun _ _ => rfl))) (DS.mm (ds_ix ix_seq ru_ix (DR.mm (dr_var (pv 0))) (DS.mm ds_int) (fun _ _ => rfl))) (fun _ _ => rfl))))
  (dts_cons (dt_aug ip_add (pv 0) (DS.r ds_int) (DS.r ds_int))
  (dts_one (dt_if (db_cmp op_ge ru_iiB (DR.mm (dr_var (pv 2))) (DS.mm (ds_op op_pow ru_pow (DS.mm ds_int) (DS.mm ds_int))) (nomark _))
  (dts_one (dt_sub (ds_var (pv 2)) (pv 0) (DS.r ds_int)))
  (dts_one (dt_sub (ds_op op_mod ru_mod (DS.mm (ds_callTy ru_int call_int1 (by rfl) E.fr_int bt_int (dl_cons (m := false) (DS.mm (DF.s (df_op op_addS ru_addS (DS.mm (DF.s (df_op op_addS ru_addS (DS.mm (ds_op op_mul ru_mul (DS.mm (ds_ix ix_seq ru_ix (DR.mm (dr_var (pv 0))) (DS.mm ds_int) (fun _ _ => rfl))) (DS.mm ds_int))) (DS.mm (ds_op op_mod ru_mod (DS.mm (ds_callTy ru_int call_int1 (by rfl) E.fr_int bt_int (dl_cons (m := false) (DR.mm (dr_var (pv 2))) dl_nil))) (DS.mm ds_int)))))) (DS.mm ds_int)))) dl_nil))) (DS.mm ds_int)) (pv 0) (DS.r ds_int)))))))
  dts_nil)
  (dts_cons (dt_if (db_cmp op_gt ru_iiB (DS.mm (ds_ix ix_seq ru_ix (DR.mm (dr_var (pv 0))) (DS.mm ds_int) (fun _ _ => rfl))) (DS.mm ds_int) (nomark _))
  (dts_cons (dt_set (i := 3) sc__law_next.nd (by rfl) (by first | exact .inl rfl | exact .inr rfl) (DS.f (ds_op op_mod ru_mod (DS.mm (ds_callTy ru_int call_int1 (by rfl) E.fr_int bt_int (dl_cons (m := false) (DS.mm (ds_ix ix_seq ru_ix (DR.mm (dr_var (pv 0))) (DS.mm ds_int) (fun _ _ => rfl))) dl_nil))) (DR.mm (dr_var (pv 1))))))
  (dts_cons (dt_sub (ds_op op_fdiv ru_fdv (DS.mm (ds_ix ix_seq ru_ix (DR.mm (dr_var (pv 0))) (DS.mm ds_int) (fun _ _ => rfl))) (DR.mm (dr_var (pv 1)))) (pv 0) (DS.r ds_int))
  (dts_one (dt_retV (pv 3)))))
  dts_nil)
  (dts_cons (dt_sub (ds_op op_mod ru_mod (DS.mm (ds_callTy ru_int call_int1 (by rfl) E.fr_int bt_int (dl_cons (m := false) (DS.mm (DF.s (df_op op_addS ru_addS (DS.mm (ds_op op_mul ru_mul (DS.mm (ds_ix ix_seq ru_ix (DR.mm (dr_var (pv 0))) (DS.mm ds_int) (fun _ _ => rfl))) (DS.mm ds_int))) (DS.mm ds_int)))) dl_nil))) (DS.mm ds_int)) (pv 0) (DS.r ds_int))
  (dts_one (dt_ret (DS.f (ds_op op_mod ru_mod (DS.mm (ds_callTy ru_int call_int1 (by rfl) E.fr_int bt_int (dl_cons (m := false) (DS.mm (ds_op op_fdiv ru_fdv (DS.mm (ds_ix ix_seq ru_ix (DR.mm (dr_var (pv 0))) (DS.mm ds_int) (fun _ _ => rfl))) (DS.mm ds_int))) dl_nil))) (DR.mm (dr_var (pv 1))))))))))
theorem sc_told_alike : FnScope ["told", "due"] ["told", "due"] (defScope (top 5)) := ⟨rfl, rfl, rfl, by decide +kernel, rfl, by decide +kernel, by decide +kernel⟩
theorem ok_told_alike {P : Program} {w : World} {K : PySem.W.Frag} {mg : Str → Option Value} {base : Heap} (E : Fx K mg) : Fok P w K mg base (clsZ K) 1 "told_alike" 2 [] d_told_alike :=
  fok_of (k := 0) E.at_told_alike sc_told_alike rfl (fun _ _ _ _ _ _ us hl => match us, hl with | [_, _], _ => rfl) fun f cdv A0 outer s H E' gd hr A hA => by
        have hu := room_u hr
        have hu0 := hr.units
        delta b_told_alike
        exact (dts_one (dt_ret (DS.f (ds_and (ds_isi (by rfl) E.fr_isinstance (by rfl) E.fr_tuple bt_tuple (by decide) (DR.mm (dr_var (pv 0)))) (ds_and (ds_cmp (op_eqD hu0) ru_eq (DS.mm (ds_callB ru_len call_len (by rfl) E.fr_len bt_len (dl_cons (m := false) (DR.mm (dr_var (pv 0))) dl_nil))) (DS.mm (ds_callB ru_len call_len (by rfl) E.fr_len bt_len (dl_cons (m := false) (DR.mm (dr_var (pv 1))) dl_nil))) (nomark _)) (ds_one (ds_cmp (op_eqD hu0) ru_eq (DS.mm (ds_callB ru_repr (call_reprD gd (room_w hr)) (by rfl) E.fr_repr bt_repr (dl_cons (m := false) (DR.mm (dr_var (pv 0))) dl_nil))) (DS.mm (ds_callB ru_repr (call_reprD gd (room_w hr)) (by rfl) E.fr_repr bt_repr (dl_cons (m := false) (DR.mm (dr_var (pv 1))) dl_nil))) (nomark _))))))))
theorem sc_judge_ball : FnScope ["size", "told"] ["size", "told"] (defScope (top 7)) := ⟨rfl, rfl, rfl, by decide +kernel, rfl, by decide +kernel, by decide +kernel⟩
theorem ok_judge_ball {P : Program} {w : World} {K : PySem.W.Frag} {mg : Str → Option Value} {base : Heap} (E : Fx K mg) : Fok P w K mg base (clsZ K) 2 "judge_ball" 2 [] d_judge_ball :=
  fok_of (k := 1) E.at_judge_ball sc_judge_ball rfl (fun _ _ _ _ _ _ us hl => match us, hl with | [_, _], _ => rfl) fun f cdv A0 outer s H E' gd hr A hA => by
        have hu := room_u hr
        have hu0 := hr.units
        delta b_judge_ball
        exact (dts_one (dt_ret (df_call (Fok.calA hA (ok_told_alike E)) gd (hr.mono (by omega)) (by rfl) tkF (dl_cons (m := true) (DS.mm (ds_var (pv 1))) (dl_cons (m := true) (DS.mm (DF.s (df_call (Fok.calA hA (ok_ball E)) gd (hr.mono (by omega)) (by rfl) tkF (dl_cons (m := true) (DS.mm (ds_var (pv 0))) dl_nil)))) dl_nil)))))
theorem sc__law_unfit : FnScope ["size", "judged", "error"] ["size"] (defScope (top 19)) := ⟨rfl, rfl, rfl, by decide +kernel, rfl, by decide +kernel, by decide +kernel⟩
theorem ok__law_unfit {P : Program} {w : World} {K : PySem.W.Frag} {mg : Str → Option Value} {base : Heap} (E : Fx K mg) : Fok P w K mg base (clsZ K) 3 "_law_unfit" 1 [] d__law_unfit :=
  fok_of (k := 2) E.at__law_unfit sc__law_unfit rfl (fun _ _ _ _ _ _ us hl => match us, hl with | [_], _ => rfl) fun f cdv A0 outer s H E' gd hr A hA => by
        have hu := room_u hr
        have hu0 := hr.units
        delta b__law_unfit
        exact (dts_cons (dt_for (passes_of (by rfl)) (by rfl) (di_seq (DF.s (df_lst (dl_cons (m := true) (DS.mm ds_bl) (dl_cons (m := true) (DS.mm ds_bl) dl_nil))))) (dg_name (i := 1) sc__law_unfit.nd (by rfl) (by first | exact .inl rfl | exact .inr rfl))
  (dts_one (dt_tryV (i := 2) (C := He.ga K "UnfitShape") yes_UnfitShape (by rfl) (by rfl) sc__law_unfit.nd (by rfl) (by rfl) ⟨by rfl, by decide, .inl E.ex_UnfitShape.gx⟩ tkF (fun W' pn xe tkT pT A' hA' => have hA := hA'.trans hA; (dts_cons (dt_if (db_tru (DR.mm (dr_var (pv 1))))
  (dts_one (dt_expr (DS.mm (DF.s (df_call (Fok.calA hA (ok_judge_ball E)) gd (hr.mono (by omega)) (by rfl) tkT (dl_cons (m := true) (DS.mm (ds_var (pv 0))) (dl_cons (m := true) (DS.mm ds_non) dl_nil)))))))
  (dts_one (dt_expr (DS.mm (DF.s (df_call (Fok.calA hA (ok_ball E)) gd (hr.mono (by omega)) (by rfl) tkT (dl_cons (m := true) (DS.mm (ds_var (pv 0))) dl_nil)))))))
  (dts_one (dt_ret (DS.f ds_bl)))))
  (hyes_UnfitShape E hA) (by rfl) E.fr_isinstance (by rfl) E.fr_ValueError (by first | exact .inl rfl | exact .inr rfl))))
  (dts_one (dt_ret (DS.f ds_bl))))
theorem sc__law_same : FnScope ["actual", "expected", "k"] ["actual", "expected"] (defScope (top 10)) := ⟨rfl, rfl, rfl, by decide +kernel, rfl, by decide +kernel, by decide +kernel⟩
theorem ok__law_same {P : Program} {w : World} {K : PySem.W.Frag} {mg : Str → Option Value} {base : Heap} (E : Fx K mg) : ∀ (n : Nat), Fok P w K mg base (clsZ K) (0 + n) "_law_same" 2 [] (d__law_same n)
  | 0 => fok_err E.at__law_same (ps := ["actual", "expected"]) rfl (fun _ _ _ _ _ _ us hl => match us, hl with | [_, _], _ => rfl)
  | n + 1 => by
    have ih := ok__law_same (P := P) (w := w) (base := base) E n
    exact fok_of (k := 0 + n) E.at__law_same sc__law_same rfl (fun _ _ _ _ _ _ us hl => match us, hl with | [_, _], _ => rfl) fun f cdv A0 outer s H E' gd hr A hA => by
        have hu := room_u hr
        have hu0 := hr.units
        delta b__law_same
        exact (dts_cons (dt_if (db_cmp op_isN ru_isNone (DR.mm (dr_var (pv 1))) (DS.mm ds_non) (nomark _))
  (dts_one (dt_ret (DS.f (ds_cmp op_isN ru_isNone (DR.mm (dr_var (pv 0))) (DS.mm ds_non) (nomark _)))))
  dts_nil)
  (dts_cons (dt_if (db_tru (DS.mm (ds_isi (by rfl) E.fr_isinstance (by rfl) E.fr_bool bt_bool (by decide) (DR.mm (dr_var (pv 1))))))
  (dts_one (dt_ret (DS.f (ds_and (ds_isi (by rfl) E.fr_isinstance (by rfl) E.fr_bool bt_bool (by decide) (DR.mm (dr_var (pv 0)))) (ds_one (ds_cmp (op_eqD hu0) ru_eq (DR.mm (dr_var (pv 0))) (DR.mm (dr_var (pv 1))) (nomark _)))))))
  dts_nil)
  (dts_cons (dt_if (db_tru (DS.mm (ds_isi (by rfl) E.fr_isinstance (by rfl) E.fr_int bt_int (by decide) (DR.mm (dr_var (pv 1))))))
  (dts_one (dt_ret (DS.f (ds_and (ds_isi (by rfl) E.fr_isinstance (by rfl) E.fr_int bt_int (by decide) (DR.mm (dr_var (pv 0)))) (ds_and (ds_not (DS.mm (ds_isi (by rfl) E.fr_isinstance (by rfl) E.fr_bool bt_bool (by decide) (DR.mm (dr_var (pv 0)))))) (ds_one (ds_cmp (op_eqD hu0) ru_eq (DR.mm (dr_var (pv 0))) (DR.mm (dr_var (pv 1))) (nomark _))))))))
  dts_nil)
  (dts_cons (dt_if (db_tru (DS.mm (ds_isi (by rfl) E.fr_isinstance (by rfl) E.fr_str bt_str (by decide) (DR.mm (dr_var (pv 1))))))
  (dts_one (dt_ret (DS.f (ds_and (ds_isi (by rfl) E.fr_isinstance (by rfl) E.fr_str bt_str (by decide) (DR.mm (dr_var (pv 0)))) (ds_one (ds_cmp (op_eqD hu0) ru_eq (DR.mm (dr_var (pv 0))) (DR.mm (dr_var (pv 1))) (nomark _)))))))
  dts_nil)
  (dts_cons (dt_if (DW.bb (dw_and (db_tru (DS.mm (ds_isi (by rfl) E.fr_isinstance (by rfl) E.fr_tuple bt_tuple (by decide) (DR.mm (dr_var (pv 1)))))) (dw_and1 (db_not (db_tru (DS.mm (ds_isi (by rfl) E.fr_isinstance (by rfl) E.fr_tuple bt_tuple (by decide) (DR.mm (dr_var (pv 0))))))))))
  (dts_one (dt_ret (DS.f ds_bl)))
  dts_nil)
  (dts_cons (dt_if (DW.bb (dw_and (db_tru (DS.mm (ds_isi (by rfl) E.fr_isinstance (by rfl) E.fr_list bt_list (by decide) (DR.mm (dr_var (pv 1)))))) (dw_and1 (db_not (db_tru (DS.mm (ds_isi (by rfl) E.fr_isinstance (by rfl) E.fr_list bt_list (by decide) (DR.mm (dr_var (pv 0))))))))))
  (dts_one (dt_ret (DS.f ds_bl)))
  dts_nil)
  (dts_cons (dt_if (db_cmp (op_neD hu0) ru_ne (DS.mm (ds_callB ru_len call_len (by rfl) E.fr_len bt_len (dl_cons (m := false) (DR.mm (dr_var (pv 0))) dl_nil))) (DS.mm (ds_callB ru_len call_len (by rfl) E.fr_len bt_len (dl_cons (m := false) (DR.mm (dr_var (pv 1))) dl_nil))) (nomark _))
  (dts_one (dt_ret (DS.f ds_bl)))
  dts_nil)
  (dts_cons (dt_for (passes_of (by rfl)) (by rfl) (di_rng1 (by rfl) E.fr_range (DS.mm (ds_callB ru_len call_len (by rfl) E.fr_len bt_len (dl_cons (m := false) (DR.mm (dr_var (pv 1))) dl_nil)))) (dg_name (i := 2) sc__law_same.nd (by rfl) (by first | exact .inl rfl | exact .inr rfl))
  (dts_one (dt_if (db_not (db_tru (DS.mm (DF.s (df_call (Fok.calA hA ih) gd (hr.mono (by omega)) (by rfl) tkF (dl_cons (m := true) (DS.mm (ds_ix ix_seq ru_ix (DR.mm (dr_var (pv 0))) (DR.mm (dr_var (pv 2))) (fun _ _ => rfl))) (dl_cons (m := true) (DS.mm (ds_ix ix_seq ru_ix (DR.mm (dr_var (pv 1))) (DR.mm (dr_var (pv 2))) (fun _ _ => rfl))) dl_nil)))))))
  (dts_one (dt_ret (DS.f ds_bl)))
  dts_nil)))
  (dts_one (dt_ret (DS.f ds_bl)))))))))))
theorem sc__law_parts : FnScope ["face", "found", "name", "part"] ["face"] (defScope (top 17)) := ⟨rfl, rfl, rfl, by decide +kernel, rfl, by decide +kernel, by decide +kernel⟩
theorem ok__law_parts {P : Program} {w : World} {K : PySem.W.Frag} {mg : Str → Option Value} {base : Heap} (E : Fx K mg) : Fok P w K mg base (clsZ K) 1 "_law_parts" 1 [] d__law_parts :=
  fok_of (k := 0) E.at__law_parts sc__law_parts rfl (fun _ _ _ _ _ _ us hl => match us, hl with | [_], _ => rfl) fun f cdv A0 outer s H E' gd hr A hA => by
        have hu := room_u hr
        have hu0 := hr.units
        delta b__law_parts
        exact (dts_cons (dt_set (i := 1) sc__law_parts.nd (by rfl) (by first | exact .inl rfl | exact .inr rfl) (df_lst (dl_cons (m := true) (DS.mm (ds_tup (dl_nil (m := true)))) dl_nil)))
  (dts_cons (dt_for (passes_of (by rfl)) (by rfl) (di_seq (DF.s (df_callB ru_sort (call_sortD (room_v hr)) (by rfl) E.fr_sorted bt_sorted (dl_cons (m := false) (DR.mm (dr_var (pv 0))) dl_nil)))) (dg_name (i := 2) sc__law_parts.nd (by rfl) (by first | exact .inl rfl | exact .inr rfl))
  (dts_one (dt_set (i := 1) sc__law_parts.nd (by rfl) (by first | exact .inl rfl | exact .inr rfl) (df_op op_addS ru_addS (DS.mm (ds_var (pv 1))) (DS.mm (DF.s (df_lc (own := [("part", 3)]) (by rfl) sc__law_parts.nd  (di_seq (ds_var (pv 1))) (blkOk_by (by kernel_rfl)) (by decide) (fun s H C cl fp A' hA' => have hA := hA'.trans hA; (dg_name (i := 3) sc__law_parts.nd (by rfl) (by first | exact .inl rfl | exact .inr rfl))) (fun s H C cl fp A' hA' => have hA := hA'.trans hA; dts_yes) (fun s H C cl fp A' hA' => have hA := hA'.trans hA; (DF.s (df_op op_addS ru_addS (DR.mm (dr_var (pv 3))) (DS.mm (ds_tup (dl_cons (m := true) (DS.mm (ds_var (pv 2))) dl_nil)))))))))))))
  (dts_one (dt_ret (df_lc (own := [("part", 3)]) (by rfl) sc__law_parts.nd  (di_seq (ds_var (pv 1))) (blkOk_by (by kernel_rfl)) (by decide) (fun s H C cl fp A' hA' => have hA := hA'.trans hA; (dg_name (i := 3) sc__law_parts.nd (by rfl) (by first | exact .inl rfl | exact .inr rfl))) (fun s H C cl fp A' hA' => have hA := hA'.trans hA; (dts_if (db_cmp (op_neD hu0) ru_ne (DR.mm (dr_var (pv 3))) (DS.mm (ds_tup (dl_nil (m := true)))) (nomark _)))) (fun s H C cl fp A' hA' => have hA := hA'.trans hA; (ds_var (pv 3))))))))
theorem sc__law_accepts : FnScope ["size", "told", "face", "sphere", "part", "k"] ["size", "told"] (defScope (top 18)) := ⟨rfl, rfl, rfl, by decide +kernel, rfl, by decide +kernel, by decide +kernel⟩
theorem ok__law_accepts {P : Program} {w : World} {K : PySem.W.Frag} {mg : Str → Option Value} {base : Heap} (E : Fx K mg) : Fok P w K mg base (clsZ K) 41 "_law_accepts" 2 [] d__law_accepts :=
  fok_of (k := 40) E.at__law_accepts sc__law_accepts rfl (fun _ _ _ _ _ _ us hl => match us, hl with | [_, _], _ => rfl) fun f cdv A0 outer s H E' gd hr A hA => by
        have hu := room_u hr
        have hu0 := hr.units
        delta b__law_accepts
        exact (dts_cons (dt_set (i := 2) sc__law_accepts.nd (by rfl) (by first | exact .inl rfl | exact .inr rfl) (DS.f (ds_tuple (by rfl) (by rfl) E.fr_tuple (dl_cons (m := false) (DS.mm (DF.s (df_lc (own := [("k", 5)]) (by rfl) sc__law_accepts.nd  (di_rng1 (by rfl) E.fr_range (DR.mm (dr_var (pv 0)))) (blkOk_by (by kernel_rfl)) (by decide) (fun s H C cl fp A' hA' => have hA := hA'.trans hA; (dg_name (i := 5) sc__law_accepts.nd (by rfl) (by first | exact .inl rfl | exact .inr rfl))) (fun s H C cl fp A' hA' => have hA := hA'.trans hA; dts_yes) (fun s H C cl fp A' hA' => have hA := hA'.trans hA; (DF.s (df_op op_addS ru_addS (DS.mm ds_str) (DS.mm (ds_callTy ru_str call_strX (by rfl) E.fr_str bt_str (dl_cons (m := false) (DR.mm (dr_var (pv 5))) dl_nil))))))))) dl_nil))))
  (dts_cons (dt_setLc (i := 3) (own := [("part", 4)]) (by rfl) sc__law_accepts.nd (by rfl) (by rfl) (by rfl) (di_seq (DF.s (df_call (Fok.calA hA (ok__law_parts E)) gd (hr.mono (by omega)) (by rfl) tkF (dl_cons (m := true) (DS.mm (ds_var (pv 2))) dl_nil)))) (blkOk_by (by kernel_rfl)) (by decide) (fun s H C cl fp A' hA' => have hA := hA'.trans hA; (dg_name (i := 4) sc__law_accepts.nd (by rfl) (by first | exact .inl rfl | exact .inr rfl))) (fun s H C cl fp A' hA' => have hA := hA'.trans hA; (dts_if (db_cmp (op_eqD hu0) ru_eq (DS.mm (ds_callB ru_len call_len (by rfl) E.fr_len bt_len (dl_cons (m := false) (DR.mm (dr_var (pv 4))) dl_nil))) (DS.mm (ds_op op_sub ru_sub (DR.mm (dr_var (pv 0))) (DS.mm ds_int))) (nomark _)))) (fun s H C cl fp A' hA' => have hA := hA'.trans hA; (ds_var (pv 4))))
  (dts_one (dt_ret (df_call (Fok.calA hA (ok__law_same E 40)) gd (hr.mono (by omega)) (by rfl) tkF (dl_cons (m := true) (DS.mm (ds_var (pv 1))) (dl_cons (m := true) (DS.mm (ds_tup (dl_cons (m := true) (DS.mm ds_str) (dl_cons (m := true) (DS.mm (ds_tup (dl_cons (m := true) (DS.mm (ds_var (pv 2))) dl_nil))) (dl_cons (m := true) (DS.mm (ds_tuple (by rfl) (by rfl) E.fr_tuple (dl_cons (m := false) (DS.mm (DF.s (df_callB ru_sort (call_sortD (room_v hr)) (by rfl) E.fr_sorted bt_sorted (dl_cons (m := false) (DR.mm (dr_var (pv 3))) dl_nil)))) dl_nil))) dl_nil))))) dl_nil)))))))
theorem sc__law_ints : FnScope ["value", "found", "part", "number"] ["value"] (defScope (top 12)) := ⟨rfl, rfl, rfl, by decide +kernel, rfl, by decide +kernel, by decide +kernel⟩
theorem ok__law_ints {P : Program} {w : World} {K : PySem.W.Frag} {mg : Str → Option Value} {base : Heap} (E : Fx K mg) : ∀ (n : Nat), Fok P w K mg base (clsZ K) (0 + n) "_law_ints" 1 [] (d__law_ints n)
  | 0 => fok_err E.at__law_ints (ps := ["value"]) rfl (fun _ _ _ _ _ _ us hl => match us, hl with | [_], _ => rfl)
  | n + 1 => by
    have ih := ok__law_ints (P := P) (w := w) (base := base) E n
    exact fok_of (k := 0 + n) E.at__law_ints sc__law_ints rfl (fun _ _ _ _ _ _ us hl => match us, hl with | [_], _ => rfl) fun f cdv A0 outer s H E' gd hr A hA => by
        have hu := room_u hr
        have hu0 := hr.units
        delta b__law_ints
        exact (dts_cons (dt_if (DW.bb (dw_or (db_tru (DS.mm (ds_isi (by rfl) E.fr_isinstance (by rfl) E.fr_bool bt_bool (by decide) (DR.mm (dr_var (pv 0)))))) (dw_or1 (db_not (db_tru (DS.mm (ds_isi2 (by rfl) E.fr_isinstance (by rfl) E.fr_int bt_int (by rfl) E.fr_tuple bt_tuple (by decide) (DR.mm (dr_var (pv 0))))))))))
  (dts_one (dt_ret (df_lst (dl_nil (m := true)))))
  dts_nil)
  (dts_cons (dt_if (db_tru (DS.mm (ds_isi (by rfl) E.fr_isinstance (by rfl) E.fr_int bt_int (by decide) (DR.mm (dr_var (pv 0))))))
  (dts_one (dt_ret (df_lst (dl_cons (m := true) (DS.mm (ds_var (pv 0))) dl_nil))))
  dts_nil)
  (dts_cons (dt_set (i := 1) sc__law_ints.nd (by rfl) (by first | exact .inl rfl | exact .inr rfl) (df_lst (dl_nil (m := true))))
  (dts_cons (dt_for (passes_of (by rfl)) (by rfl) (di_seq (ds_var (pv 0))) (dg_name (i := 2) sc__law_ints.nd (by rfl) (by first | exact .inl rfl | exact .inr rfl))
  (dts_one (dt_set (i := 1) sc__law_ints.nd (by rfl) (by first | exact .inl rfl | exact .inr rfl) (df_op op_addS ru_addS (DS.mm (ds_var (pv 1))) (DS.mm (DF.s (df_lc (own := [("number", 3)]) (by rfl) sc__law_ints.nd  (di_seq (DF.s (df_call (Fok.calA hA ih) gd (hr.mono (by omega)) (by rfl) tkF (dl_cons (m := true) (DS.mm (ds_var (pv 2))) dl_nil)))) (blkOk_by (by kernel_rfl)) (by decide) (fun s H C cl fp A' hA' => have hA := hA'.trans hA; (dg_name (i := 3) sc__law_ints.nd (by rfl) (by first | exact .inl rfl | exact .inr rfl))) (fun s H C cl fp A' hA' => have hA := hA'.trans hA; (dts_if (db_cmp (op_niX hu) ru_ni (DR.mm (dr_var (pv 3))) (DR.mm (dr_var (pv 1))) (by rfl)))) (fun s H C cl fp A' hA' => have hA := hA'.trans hA; (ds_var (pv 3))))))))))
  (dts_one (dt_retV (pv 1)))))))
theorem sc__law_exchanged : FnScope ["value", "one", "other", "part"] ["value", "one", "other"] (defScope (top 13)) := ⟨rfl, rfl, rfl, by decide +kernel, rfl, by decide +kernel, by decide +kernel⟩
theorem ok__law_exchanged {P : Program} {w : World} {K : PySem.W.Frag} {mg : Str → Option Value} {base : Heap} (E : Fx K mg) : ∀ (n : Nat), Fok P w K mg base (clsZ K) (0 + n) "_law_exchanged" 3 [] (d__law_exchanged n)
  | 0 => fok_err E.at__law_exchanged (ps := ["value", "one", "other"]) rfl (fun _ _ _ _ _ _ us hl => match us, hl with | [_, _, _], _ => rfl)
  | n + 1 => by
    have ih := ok__law_exchanged (P := P) (w := w) (base := base) E n
    exact fok_of (k := 0 + n) E.at__law_exchanged sc__law_exchanged rfl (fun _ _ _ _ _ _ us hl => match us, hl with | [_, _, _], _ => rfl) fun f cdv A0 outer s H E' gd hr A hA => by
        have hu := room_u hr
        have hu0 := hr.units
        delta b__law_exchanged
        exact (dts_cons (dt_if (DW.bb (dw_or (db_tru (DS.mm (ds_isi (by rfl) E.fr_isinstance (by rfl) E.fr_bool bt_bool (by decide) (DR.mm (dr_var (pv 0)))))) (dw_or1 (db_not (db_tru (DS.mm (ds_isi2 (by rfl) E.fr_isinstance (by rfl) E.fr_int bt_int (by rfl) E.fr_tuple bt_tuple (by decide) (DR.mm (dr_var (pv 0))))))))))
  (dts_one (dt_retV (pv 0)))
  dts_nil)
  (dts_cons (dt_if (db_tru (DS.mm (ds_isi (by rfl) E.fr_isinstance (by rfl) E.fr_int bt_int (by decide) (DR.mm (dr_var (pv 0))))))
  (dts_one (dt_ret (DS.f (ds_if (db_cmp (op_eqD hu0) ru_eq (DR.mm (dr_var (pv 0))) (DR.mm (dr_var (pv 1))) (nomark _)) (ds_var (pv 2)) (ds_if (db_cmp (op_eqD hu0) ru_eq (DR.mm (dr_var (pv 0))) (DR.mm (dr_var (pv 2))) (nomark _)) (ds_var (pv 1)) (ds_var (pv 0)))))))
  dts_nil)
  (dts_one (dt_ret (DS.f (ds_tuple (by rfl) (by rfl) E.fr_tuple (dl_cons (m := false) (DS.mm (DF.s (df_lc (own := [("part", 3)]) (by rfl) sc__law_exchanged.nd  (di_seq (ds_var (pv 0))) (blkOk_by (by kernel_rfl)) (by decide) (fun s H C cl fp A' hA' => have hA := hA'.trans hA; (dg_name (i := 3) sc__law_exchanged.nd (by rfl) (by first | exact .inl rfl | exact .inr rfl))) (fun s H C cl fp A' hA' => have hA := hA'.trans hA; dts_yes) (fun s H C cl fp A' hA' => have hA := hA'.trans hA; (DF.s (df_call (Fok.calA hA ih) gd (hr.mono (by omega)) (by rfl) tk0 (dl_cons (m := true) (DS.mm (ds_var (pv 3))) (dl_cons (m := true) (DS.mm (ds_var (pv 1))) (dl_cons (m := true) (DS.mm (ds_var (pv 2))) dl_nil))))))))) dl_nil)))))))
theorem sc__law_cut : FnScope ["state", "value", "k", "at", "ways", "part"] ["state", "value"] (defScope (top 14)) := ⟨rfl, rfl, rfl, by decide +kernel, rfl, by decide +kernel, by decide +kernel⟩
theorem ok__law_cut {P : Program} {w : World} {K : PySem.W.Frag} {mg : Str → Option Value} {base : Heap} (E : Fx K mg) : ∀ (n : Nat), Fok P w K mg base (clsZ K) (1 + n) "_law_cut" 2 [0] (d__law_cut n)
  | 0 => fok_err E.at__law_cut (ps := ["state", "value"]) rfl (fun _ _ _ _ _ _ us hl => match us, hl with | [_, _], _ => rfl)
  | n + 1 => by
    have ih := ok__law_cut (P := P) (w := w) (base := base) E n
    exact fok_of (k := 1 + n) E.at__law_cut sc__law_cut rfl (fun _ _ _ _ _ _ us hl => match us, hl with | [_, _], _ => rfl) fun f cdv A0 outer s H E' gd hr A hA => by
        have hu := room_u hr
        have hu0 := hr.units
        delta b__law_cut
        exact (dts_cons (dt_if (DW.bb (dw_or (db_not (db_tru (DS.mm (ds_isi (by rfl) E.fr_isinstance (by rfl) E.fr_tuple bt_tuple (by decide) (DR.mm (dr_var (pv 1))))))) (dw_or1 (db_cmp (op_eqD hu0) ru_eq (DR.mm (dr_var (pv 1))) (DS.mm (ds_tup (dl_nil (m := true)))) (nomark _)))))
  (dts_one (dt_retV (pv 1)))
  dts_nil)
  (dts_cons (dt_if (db_cmp (op_neD hu0) ru_ne (DS.mm (DF.s (df_lc (own := [("part", 5)]) (by rfl) sc__law_cut.nd  (di_seq (ds_var (pv 1))) (blkOk_by (by kernel_rfl)) (by decide) (fun s H C cl fp A' hA' => have hA := hA'.trans hA; (dg_name (i := 5) sc__law_cut.nd (by rfl) (by first | exact .inl rfl | exact .inr rfl))) (fun s H C cl fp A' hA' => have hA := hA'.trans hA; (dts_if (db_not (db_tru (DS.mm (ds_isi (by rfl) E.fr_isinstance (by rfl) E.fr_str bt_str (by decide) (DR.mm (dr_var (pv 5))))))))) (fun s H C cl fp A' hA' => have hA := hA'.trans hA; (ds_var (pv 5)))))) (DS.mm (DF.s (df_lst (dl_nil (m := true))))) (nomark _))
  (dts_cons (dt_set (i := 2) sc__law_cut.nd (by rfl) (by first | exact .inl rfl | exact .inr rfl) (df_callR (Fok.calA hA (ok__law_next E)) gd (hr.mono (by omega)) (by rfl) tkF (pv 0) (dl_cons (m := true) (DS.mm (ds_callB ru_len call_len (by rfl) E.fr_len bt_len (dl_cons (m := false) (DR.mm (dr_var (pv 1))) dl_nil))) dl_nil)))
  (dts_one (dt_ret (df_op op_addS ru_addS (DS.mm (DF.s (df_op op_addS ru_addS (DS.mm (DF.s (df_slc (DR.mm (dr_var (pv 1))) do_none (do_some (DR.mm (dr_var (pv 2))))))) (DS.mm (ds_tup (dl_cons (m := true) (DS.mm (DF.s (df_callR (Fok.calA hA ih) gd (hr.mono (by omega)) (by rfl) tkF (pv 0) (dl_cons (m := true) (DS.mm (ds_ix ix_seq ru_ix (DR.mm (dr_var (pv 1))) (DR.mm (dr_var (pv 2))) (fun _ _ => rfl))) dl_nil)))) dl_nil)))))) (DS.mm (DF.s (df_slc (DR.mm (dr_var (pv 1))) (do_some (DS.mm (DF.s (df_op op_addS ru_addS (DR.mm (dr_var (pv 2))) (DS.mm ds_int))))) do_none)))))))
  dts_nil)
  (dts_cons (dt_set (i := 2) sc__law_cut.nd (by rfl) (by first | exact .inl rfl | exact .inr rfl) (df_callR (Fok.calA hA (ok__law_next E)) gd (hr.mono (by omega)) (by rfl) tkF (pv 0) (dl_cons (m := true) (DS.mm (ds_callB ru_len call_len (by rfl) E.fr_len bt_len (dl_cons (m := false) (DR.mm (dr_var (pv 1))) dl_nil))) dl_nil)))
  (dts_cons (dt_set (i := 3) sc__law_cut.nd (by rfl) (by first | exact .inl rfl | exact .inr rfl) (df_callR (Fok.calA hA (ok__law_next E)) gd (hr.mono (by omega)) (by rfl) tkF (pv 0) (dl_cons (m := true) (DS.mm (DF.s (df_op op_addS ru_addS (DS.mm (ds_callB ru_len call_len (by rfl) E.fr_len bt_len (dl_cons (m := false) (DS.mm (ds_ix ix_seq ru_ix (DR.mm (dr_var (pv 1))) (DR.mm (dr_var (pv 2))) (fun _ _ => rfl))) dl_nil))) (DS.mm ds_int)))) dl_nil)))
  (dts_cons (dt_set (i := 4) sc__law_cut.nd (by rfl) (by first | exact .inl rfl | exact .inr rfl) (df_lst (dl_cons (m := true) (DS.mm (DF.s (df_op op_addS ru_addS (DS.mm (DF.s (df_op op_addS ru_addS (DS.mm (DF.s (df_slc (DR.mm (dr_var (pv 1))) do_none (do_some (DR.mm (dr_var (pv 2))))))) (DS.mm (ds_tup (dl_cons (m := true) (DS.mm (DF.s (df_slc (DS.mm (ds_ix ix_seq ru_ix (DR.mm (dr_var (pv 1))) (DR.mm (dr_var (pv 2))) (fun _ _ => rfl))) do_none (do_some (DR.mm (dr_var (pv 3))))))) (dl_cons (m := true) (DS.mm (DF.s (df_slc (DS.mm (ds_ix ix_seq ru_ix (DR.mm (dr_var (pv 1))) (DR.mm (dr_var (pv 2))) (fun _ _ => rfl))) (do_some (DR.mm (dr_var (pv 3)))) do_none))) dl_nil))))))) (DS.mm (DF.s (df_slc (DR.mm (dr_var (pv 1))) (do_some (DS.mm (DF.s (df_op op_addS ru_addS (DR.mm (dr_var (pv 2))) (DS.mm ds_int))))) do_none)))))) (dl_cons (m := true) (DS.mm (DF.s (df_op op_addS ru_addS (DS.mm (DF.s (df_op op_addS ru_addS (DS.mm (DF.s (df_slc (DR.mm (dr_var (pv 1))) do_none (do_some (DR.mm (dr_var (pv 2))))))) (DS.mm (ds_tup (dl_cons (m := true) (DS.mm (ds_join (DS.mm ds_str) (DS.mm (DF.s (df_slc (DR.mm (dr_var (pv 1))) (do_some (DR.mm (dr_var (pv 2)))) (do_some (DS.mm (DF.s (df_op op_addS ru_addS (DR.mm (dr_var (pv 2))) (DS.mm ds_int)))))))))) dl_nil)))))) (DS.mm (DF.s (df_slc (DR.mm (dr_var (pv 1))) (do_some (DS.mm (DF.s (df_op op_addS ru_addS (DR.mm (dr_var (pv 2))) (DS.mm ds_int))))) do_none)))))) dl_nil))))
  (dts_cons (dt_set (i := 4) sc__law_cut.nd (by rfl) (by first | exact .inl rfl | exact .inr rfl) (df_op op_addS ru_addS (DR.mm (dr_var (pv 4))) (DS.mm (DF.s (df_lst (dl_cons (m := true) (DS.mm (ds_tup (dl_cons (m := true) (DS.mm (ds_join (DS.mm ds_str) (DR.mm (dr_var (pv 1))))) dl_nil))) (dl_cons (m := true) (DS.mm (ds_tuple (by rfl) (by rfl) E.fr_tuple (dl_cons (m := false) (DS.mm (ds_join (DS.mm ds_str) (DR.mm (dr_var (pv 1))))) dl_nil))) (dl_cons (m := true) (DS.mm (DF.s (df_op op_addS ru_addS (DS.mm (DF.s (df_op op_addS ru_addS (DS.mm (DF.s (df_slc (DR.mm (dr_var (pv 1))) do_none (do_some (DR.mm (dr_var (pv 2))))))) (DS.mm (ds_tup (dl_cons (m := true) (DS.mm ds_str) dl_nil)))))) (DS.mm (DF.s (df_slc (DR.mm (dr_var (pv 1))) (do_some (DR.mm (dr_var (pv 2)))) do_none)))))) (dl_cons (m := true) (DS.mm (DF.s (df_op op_addS ru_addS (DS.mm (DF.s (df_op op_addS ru_addS (DS.mm (DF.s (df_slc (DR.mm (dr_var (pv 1))) do_none (do_some (DR.mm (dr_var (pv 2))))))) (DS.mm (DF.s (df_rev (DS.mm (DF.s (df_slc (DR.mm (dr_var (pv 1))) (do_some (DR.mm (dr_var (pv 2)))) (do_some (DS.mm (DF.s (df_op op_addS ru_addS (DR.mm (dr_var (pv 2))) (DS.mm ds_int)))))))))))))) (DS.mm (DF.s (df_slc (DR.mm (dr_var (pv 1))) (do_some (DS.mm (DF.s (df_op op_addS ru_addS (DR.mm (dr_var (pv 2))) (DS.mm ds_int))))) do_none)))))) dl_nil)))))))))
  (dts_one (dt_ret (DS.f (ds_ix ix_seq ru_ix (DS.mm (ds_var (pv 4))) (DS.mm (DF.s (df_callR (Fok.calA hA (ok__law_next E)) gd (hr.mono (by omega)) (by rfl) tkF (pv 0) (dl_cons (m := true) (DS.mm (ds_callB ru_len call_len (by rfl) E.fr_len bt_len (dl_cons (m := false) (DR.mm (dr_var (pv 4))) dl_nil))) dl_nil)))) (fun _ _ => rfl)))))))))))
theorem sc__law_turned_about : FnScope ["state", "told", "numbers", "pick", "one", "other", "k", "j", "part"] ["state", "told"] (defScope (top 15)) := ⟨rfl, rfl, rfl, by decide +kernel, rfl, by decide +kernel, by decide +kernel⟩
theorem ok__law_turned_about {P : Program} {w : World} {K : PySem.W.Frag} {mg : Str → Option Value} {base : Heap} (E : Fx K mg) : Fok P w K mg base (clsZ K) 42 "_law_turned_about" 2 [0] d__law_turned_about :=
  fok_of (k := 41) E.at__law_turned_about sc__law_turned_about rfl (fun _ _ _ _ _ _ us hl => match us, hl with | [_, _], _ => rfl) fun f cdv A0 outer s H E' gd hr A hA => by
        have hu := room_u hr
        have hu0 := hr.units
        delta b__law_turned_about
        exact (dts_cons (dt_set (i := 2) sc__law_turned_about.nd (by rfl) (by first | exact .inl rfl | exact .inr rfl) (df_call (Fok.calA hA (ok__law_ints E 40)) gd (hr.mono (by omega)) (by rfl) tkF (dl_cons (m := true) (DS.mm (ds_var (pv 1))) dl_nil)))
  (dts_cons (dt_set (i := 3) sc__law_turned_about.nd (by rfl) (by first | exact .inl rfl | exact .inr rfl) (df_callR (Fok.calA hA (ok__law_next E)) gd (hr.mono (by omega)) (by rfl) tkF (pv 0) (dl_cons (m := true) (DS.mm ds_int) dl_nil)))
  (dts_cons (dt_if (DW.bb (dw_and (db_cmp op_lt ru_iiB (DR.mm (dr_var (pv 3))) (DS.mm ds_int) (nomark _)) (dw_and1 (db_cmp (op_neD hu0) ru_ne (DR.mm (dr_var (pv 2))) (DS.mm (DF.s (df_lst (dl_nil (m := true))))) (nomark _)))))
  (dts_cons (dt_set (i := 4) sc__law_turned_about.nd (by rfl) (by first | exact .inl rfl | exact .inr rfl) (DS.f (ds_ix ix_seq ru_ix (DS.mm (ds_var (pv 2))) (DS.mm (DF.s (df_callR (Fok.calA hA (ok__law_next E)) gd (hr.mono (by omega)) (by rfl) tkF (pv 0) (dl_cons (m := true) (DS.mm (ds_callB ru_len call_len (by rfl) E.fr_len bt_len (dl_cons (m := false) (DR.mm (dr_var (pv 2))) dl_nil))) dl_nil)))) (fun _ _ => rfl))))
  (dts_cons (dt_set (i := 5) sc__law_turned_about.nd (by rfl) (by first | exact .inl rfl | exact .inr rfl) (df_if (db_cmp (op_eqD hu0) ru_eq (DR.mm (dr_var (pv 3))) (DS.mm ds_int) (nomark _)) (df_op op_addS ru_addS (DR.mm (dr_var (pv 4))) (DS.mm ds_int)) (DS.f (ds_ix ix_seq ru_ix (DS.mm (ds_var (pv 2))) (DS.mm (DF.s (df_callR (Fok.calA hA (ok__law_next E)) gd (hr.mono (by omega)) (by rfl) tkF (pv 0) (dl_cons (m := true) (DS.mm (ds_callB ru_len call_len (by rfl) E.fr_len bt_len (dl_cons (m := false) (DR.mm (dr_var (pv 2))) dl_nil))) dl_nil)))) (fun _ _ => rfl)))))
  (dts_one (dt_ret (df_call (Fok.calA hA (ok__law_exchanged E 40)) gd (hr.mono (by omega)) (by rfl) tkF (dl_cons (m := true) (DS.mm (ds_var (pv 1))) (dl_cons (m := true) (DS.mm (ds_var (pv 4))) (dl_cons (m := true) (DS.mm (ds_var (pv 5))) dl_nil))))))))
  dts_nil)
  (dts_cons (dt_if (db_cmp (op_eqD hu0) ru_eq (DR.mm (dr_var (pv 3))) (DS.mm ds_int) (nomark _))
  (dts_one (dt_ret (df_op op_addS ru_addS (DS.mm (DF.s (df_slc (DR.mm (dr_var (pv 1))) do_none (do_some (DS.mm ds_int))))) (DS.mm (DF.s (df_if (db_cmp op_gt ru_iiB (DS.mm (ds_callB ru_len call_len (by rfl) E.fr_len bt_len (dl_cons (m := false) (DR.mm (dr_var (pv 1))) dl_nil))) (DS.mm ds_int) (nomark _)) (df_callR (Fok.calA hA (ok__law_cut E 40)) gd (hr.mono (by omega)) (by rfl) tkF (pv 0) (dl_cons (m := true) (DS.mm (DF.s (df_slc (DR.mm (dr_var (pv 1))) (do_some (DS.mm ds_int)) do_none))) dl_nil)) (DS.f (ds_tuple (by rfl) (by rfl) E.fr_tuple (dl_cons (m := false) (DS.mm (DF.s (df_lc (own := [("part", 8)]) (by rfl) sc__law_turned_about.nd  (di_seq (DF.s (df_slc (DR.mm (dr_var (pv 1))) (do_some (DS.mm ds_int)) do_none))) (blkOk_by (by kernel_rfl)) (by decide) (fun s H C cl fp A' hA' => have hA := hA'.trans hA; (dg_name (i := 8) sc__law_turned_about.nd (by rfl) (by first | exact .inl rfl | exact .inr rfl))) (fun s H C cl fp A' hA' => have hA := hA'.trans hA; dts_yes) (fun s H C cl fp A' hA' => have hA := hA'.trans hA; (DF.s (df_callR (Fok.calA hA (ok__law_cut E 40)) gd (hr.mono (by omega)) (by rfl) tk0 (pv 0) (dl_cons (m := true) (DS.mm (ds_var (pv 8))) dl_nil))))))) dl_nil)))))))))
  dts_nil)
  (dts_cons (dt_par (i := 6) (j := 7) (by rfl) sc__law_turned_about.nd (by rfl) (by rfl) (by decide) (by rfl) (by rfl) (dl_cons (m := true) (DS.mm (DF.s (df_callR (Fok.calA hA (ok__law_next E)) gd (hr.mono (by omega)) (by rfl) tkF (pv 0) (dl_cons (m := true) (DS.mm (ds_callB ru_len call_len (by rfl) E.fr_len bt_len (dl_cons (m := false) (DR.mm (dr_var (pv 1))) dl_nil))) dl_nil)))) (dl_cons (m := true) (DS.mm (DF.s (df_callR (Fok.calA hA (ok__law_next E)) gd (hr.mono (by omega)) (by rfl) tkF (pv 0) (dl_cons (m := true) (DS.mm (ds_callB ru_len call_len (by rfl) E.fr_len bt_len (dl_cons (m := false) (DR.mm (dr_var (pv 1))) dl_nil))) dl_nil)))) dl_nil)) (by rfl))
  (dts_cons (dt_if (DW.bb (dw_and (db_cmp (op_eqD hu0) ru_eq (DS.mm (ds_callB ru_len call_len (by rfl) E.fr_len bt_len (dl_cons (m := false) (DR.mm (dr_var (pv 1))) dl_nil))) (DS.mm ds_int) (nomark _)) (dw_and (db_tru (DS.mm (ds_isi (by rfl) E.fr_isinstance (by rfl) E.fr_tuple bt_tuple (by decide) (DS.mm (ds_ix ix_seq ru_ix (DR.mm (dr_var (pv 1))) (DS.mm ds_int) (fun _ _ => rfl)))))) (dw_and1 (db_cmp (op_neD hu0) ru_ne (DS.mm (ds_ix ix_seq ru_ix (DR.mm (dr_var (pv 1))) (DS.mm ds_int) (fun _ _ => rfl))) (DS.mm (ds_tup (dl_nil (m := true)))) (nomark _))))))
  (dts_cons (dt_par (i := 6) (j := 7) (by rfl) sc__law_turned_about.nd (by rfl) (by rfl) (by decide) (by rfl) (by rfl) (dl_cons (m := true) (DS.mm (DF.s (df_callR (Fok.calA hA (ok__law_next E)) gd (hr.mono (by omega)) (by rfl) tkF (pv 0) (dl_cons (m := true) (DS.mm (ds_callB ru_len call_len (by rfl) E.fr_len bt_len (dl_cons (m := false) (DS.mm (ds_ix ix_seq ru_ix (DR.mm (dr_var (pv 1))) (DS.mm ds_int) (fun _ _ => rfl))) dl_nil))) dl_nil)))) (dl_cons (m := true) (DS.mm (DF.s (df_callR (Fok.calA hA (ok__law_next E)) gd (hr.mono (by omega)) (by rfl) tkF (pv 0) (dl_cons (m := true) (DS.mm (ds_callB ru_len call_len (by rfl) E.fr_len bt_len (dl_cons (m := false) (DS.mm (ds_ix ix_seq ru_ix (DR.mm (dr_var (pv 1))) (DS.mm ds_int) (fun _ _ => rfl))) dl_nil))) dl_nil)))) dl_nil)) (by rfl))
  (dts_one (dt_ret (DS.f (ds_tup (dl_cons (m := true) (DS.mm (ds_ix ix_seq ru_ix (DR.mm (dr_var (pv 1))) (DS.mm ds_int) (fun _ _ => rfl))) (dl_cons (m := true) (DS.mm (DF.s (df_op op_addS ru_addS (DS.mm (DF.s (df_op op_addS ru_addS (DS.mm (DF.s (df_slc (DS.mm (ds_ix ix_seq ru_ix (DR.mm (dr_var (pv 1))) (DS.mm ds_int) (fun _ _ => rfl))) do_none (do_some (DR.mm (dr_var (pv 6))))))) (DS.mm (DF.s (df_slc (DS.mm (ds_ix ix_seq ru_ix (DR.mm (dr_var (pv 1))) (DS.mm ds_int) (fun _ _ => rfl))) (do_some (DR.mm (dr_var (pv 7)))) (do_some (DS.mm (DF.s (df_op op_addS ru_addS (DR.mm (dr_var (pv 7))) (DS.mm ds_int))))))))))) (DS.mm (DF.s (df_slc (DS.mm (ds_ix ix_seq ru_ix (DR.mm (dr_var (pv 1))) (DS.mm ds_int) (fun _ _ => rfl))) (do_some (DS.mm (DF.s (df_op op_addS ru_addS (DR.mm (dr_var (pv 6))) (DS.mm ds_int))))) do_none)))))) dl_nil)))))))
  dts_nil)
  (dts_one (dt_ret (df_if (DW.bb (dw_and (db_cmp op_gt ru_iiB (DR.mm (dr_var (pv 6))) (DS.mm ds_int) (nomark _)) (dw_and1 (db_cmp op_gt ru_iiB (DR.mm (dr_var (pv 7))) (DS.mm ds_int) (nomark _))))) (df_op op_addS ru_addS (DS.mm (DF.s (df_op op_addS ru_addS (DS.mm (DF.s (df_slc (DR.mm (dr_var (pv 1))) do_none (do_some (DR.mm (dr_var (pv 6))))))) (DS.mm (DF.s (df_slc (DR.mm (dr_var (pv 1))) (do_some (DR.mm (dr_var (pv 7)))) (do_some (DS.mm (DF.s (df_op op_addS ru_addS (DR.mm (dr_var (pv 7))) (DS.mm ds_int))))))))))) (DS.mm (DF.s (df_slc (DR.mm (dr_var (pv 1))) (do_some (DS.mm (DF.s (df_op op_addS ru_addS (DR.mm (dr_var (pv 6))) (DS.mm ds_int))))) do_none)))) (DS.f (ds_var (pv 1))))))))))))
theorem sc__law_changed : FnScope ["state", "value", "k", "j", "more", "others", "turn"] ["state", "value"] (defScope (top 11)) := ⟨rfl, rfl, rfl, by decide +kernel, rfl, by decide +kernel, by decide +kernel⟩
theorem ok__law_changed {P : Program} {w : World} {K : PySem.W.Frag} {mg : Str → Option Value} {base : Heap} (E : Fx K mg) : ∀ (n : Nat), Fok P w K mg base (clsZ K) (1 + n) "_law_changed" 2 [0] (d__law_changed n)
  | 0 => fok_err E.at__law_changed (ps := ["state", "value"]) rfl (fun _ _ _ _ _ _ us hl => match us, hl with | [_, _], _ => rfl)
  | n + 1 => by
    have ih := ok__law_changed (P := P) (w := w) (base := base) E n
    exact fok_of (k := 1 + n) E.at__law_changed sc__law_changed rfl (fun _ _ _ _ _ _ us hl => match us, hl with | [_, _], _ => rfl) fun f cdv A0 outer s H E' gd hr A hA => by
        have hu := room_u hr
        have hu0 := hr.units
        delta b__law_changed
        exact (dts_cons (dt_if (db_tru (DS.mm (ds_isi (by rfl) E.fr_isinstance (by rfl) E.fr_bool bt_bool (by decide) (DR.mm (dr_var (pv 1))))))
  (dts_one (dt_ret (DS.f (ds_ix ix_seq ru_ix (DS.mm (DF.s (df_lst (dl_cons (m := true) (DS.mm (ds_not (DR.mm (dr_var (pv 1))))) (dl_cons (m := true) (DS.mm (ds_callTy ru_int call_int1 (by rfl) E.fr_int bt_int (dl_cons (m := false) (DR.mm (dr_var (pv 1))) dl_nil))) dl_nil))))) (DS.mm (DF.s (df_callR (Fok.calA hA (ok__law_next E)) gd (hr.mono (by omega)) (by rfl) tkF (pv 0) (dl_cons (m := true) (DS.mm ds_int) dl_nil)))) (fun _ _ => rfl)))))
  dts_nil)
  (dts_cons (dt_if (DW.bb (dw_or (db_cmp op_isN ru_isNone (DR.mm (dr_var (pv 1))) (DS.mm ds_non) (nomark _)) (dw_or1 (db_tru (DS.mm (ds_isi (by rfl) E.fr_isinstance (by rfl) E.fr_int bt_int (by decide) (DR.mm (dr_var (pv 1)))))))))
  (dts_one (dt_ret (DS.f (ds_ix ix_seq ru_ix (DS.mm (DF.s (df_lst (dl_cons (m := true) (DS.mm (DF.s (df_op op_addS ru_addS (DS.mm (ds_or (ds_var (pv 1)) (ds_one ds_int))) (DS.mm ds_int)))) (dl_cons (m := true) (DS.mm (ds_op op_sub ru_sub (DS.mm (ds_or (ds_var (pv 1)) (ds_one ds_int))) (DS.mm ds_int))) (dl_cons (m := true) (DS.mm ds_int) (dl_cons (m := true) (DS.mm ds_non) (dl_cons (m := true) (DS.mm (ds_cmp (op_eqD hu0) ru_eq (DR.mm (dr_var (pv 1))) (DS.mm ds_int) (nomark _))) (dl_cons (m := true) (DS.mm (ds_callTy ru_str call_strX (by rfl) E.fr_str bt_str (dl_cons (m := false) (DR.mm (dr_var (pv 1))) dl_nil))) (dl_cons (m := true) (DS.mm (ds_op op_mul ru_mul (DS.mm ds_int) (DS.mm (ds_or (ds_var (pv 1)) (ds_one ds_int))))) dl_nil)))))))))) (DS.mm (DF.s (df_callR (Fok.calA hA (ok__law_next E)) gd (hr.mono (by omega)) (by rfl) tkF (pv 0) (dl_cons (m := true) (DS.mm ds_int) dl_nil)))) (fun _ _ => rfl)))))
  dts_nil)
  (dts_cons (dt_if (db_tru (DS.mm (ds_isi (by rfl) E.fr_isinstance (by rfl) E.fr_str bt_str (by decide) (DR.mm (dr_var (pv 1))))))
  (dts_cons (dt_set (i := 5) sc__law_changed.nd (by rfl) (by first | exact .inl rfl | exact .inr rfl) (df_lst (dl_cons (m := true) (DS.mm (DF.s (df_slc (DR.mm (dr_var (pv 1))) (do_some (DS.mm ds_int)) do_none))) (dl_cons (m := true) (DS.mm (DF.s (df_op op_addS ru_addS (DR.mm (dr_var (pv 1))) (DS.mm ds_str)))) (dl_cons (m := true) (DS.mm (DF.s (df_rev (DR.mm (dr_var (pv 1)))))) (dl_cons (m := true) (DS.mm (DF.s (df_op op_addS ru_addS (DS.mm ds_str) (DR.mm (dr_var (pv 1)))))) (dl_cons (m := true) (DS.mm ds_str) (dl_cons (m := true) (DS.mm (DF.s (df_slc (DR.mm (dr_var (pv 1))) do_none (do_some (DS.mm (ds_un un_neg ru_neg (DS.mm ds_int))))))) (dl_cons (m := true) (DS.mm ds_str) (dl_cons (m := true) (DS.mm ds_int) (dl_cons (m := true) (DS.mm ds_str) dl_nil)))))))))))
  (dts_one (dt_ret (DS.f (ds_ix ix_seq ru_ix (DS.mm (ds_var (pv 5))) (DS.mm (DF.s (df_callR (Fok.calA hA (ok__law_next E)) gd (hr.mono (by omega)) (by rfl) tkF (pv 0) (dl_cons (m := true) (DS.mm (ds_callB ru_len call_len (by rfl) E.fr_len bt_len (dl_cons (m := false) (DR.mm (dr_var (pv 5))) dl_nil))) dl_nil)))) (fun _ _ => rfl))))))
  dts_nil)
  (dts_cons (dt_if (DW.bb (dw_and (db_tru (DS.mm (ds_isi (by rfl) E.fr_isinstance (by rfl) E.fr_tuple bt_tuple (by decide) (DR.mm (dr_var (pv 1)))))) (dw_and (db_cmp (op_neD hu0) ru_ne (DR.mm (dr_var (pv 1))) (DS.mm (ds_tup (dl_nil (m := true)))) (nomark _)) (dw_and1 (db_cmp op_gt ru_iiB (DS.mm (DF.s (df_callR (Fok.calA hA (ok__law_next E)) gd (hr.mono (by omega)) (by rfl) tkF (pv 0) (dl_cons (m := true) (DS.mm ds_int) dl_nil)))) (DS.mm ds_int) (nomark _))))))
  (dts_cons (dt_set (i := 2) sc__law_changed.nd (by rfl) (by first | exact .inl rfl | exact .inr rfl) (df_callR (Fok.calA hA (ok__law_next E)) gd (hr.mono (by omega)) (by rfl) tkF (pv 0) (dl_cons (m := true) (DS.mm (ds_callB ru_len call_len (by rfl) E.fr_len bt_len (dl_cons (m := false) (DR.mm (dr_var (pv 1))) dl_nil))) dl_nil)))
  (dts_one (dt_ret (df_op op_addS ru_addS (DS.mm (DF.s (df_op op_addS ru_addS (DS.mm (DF.s (df_slc (DR.mm (dr_var (pv 1))) do_none (do_some (DR.mm (dr_var (pv 2))))))) (DS.mm (ds_tup (dl_cons (m := true) (DS.mm (DF.s (df_callR (Fok.calA hA ih) gd (hr.mono (by omega)) (by rfl) tkF (pv 0) (dl_cons (m := true) (DS.mm (ds_ix ix_seq ru_ix (DR.mm (dr_var (pv 1))) (DR.mm (dr_var (pv 2))) (fun _ _ => rfl))) dl_nil)))) dl_nil)))))) (DS.mm (DF.s (df_slc (DR.mm (dr_var (pv 1))) (do_some (DS.mm (DF.s (df_op op_addS ru_addS (DR.mm (dr_var (pv 2))) (DS.mm ds_int))))) do_none)))))))
  dts_nil)
  (dts_cons (dt_if (db_not (db_tru (DS.mm (ds_isi (by rfl) E.fr_isinstance (by rfl) E.fr_tuple bt_tuple (by decide) (DR.mm (dr_var (pv 1)))))))
  (dts_one (dt_ret (DS.f (ds_tup (dl_nil (m := true))))))
  dts_nil)
  (dts_cons (dt_set (i := 2) sc__law_changed.nd (by rfl) (by first | exact .inl rfl | exact .inr rfl) (df_callR (Fok.calA hA (ok__law_next E)) gd (hr.mono (by omega)) (by rfl) tkF (pv 0) (dl_cons (m := true) (DS.mm (DF.s (df_op op_addS ru_addS (DS.mm (ds_callB ru_len call_len (by rfl) E.fr_len bt_len (dl_cons (m := false) (DR.mm (dr_var (pv 1))) dl_nil))) (DS.mm ds_int)))) dl_nil)))
  (dts_cons (dt_set (i := 3) sc__law_changed.nd (by rfl) (by first | exact .inl rfl | exact .inr rfl) (df_callR (Fok.calA hA (ok__law_next E)) gd (hr.mono (by omega)) (by rfl) tkF (pv 0) (dl_cons (m := true) (DS.mm (DF.s (df_op op_addS ru_addS (DS.mm (ds_callB ru_len call_len (by rfl) E.fr_len bt_len (dl_cons (m := false) (DR.mm (dr_var (pv 1))) dl_nil))) (DS.mm ds_int)))) dl_nil)))
  (dts_cons (dt_set (i := 4) sc__law_changed.nd (by rfl) (by first | exact .inl rfl | exact .inr rfl) (df_lst (dl_cons (m := true) (DS.mm (DF.s (df_op op_addS ru_addS (DS.mm (DF.s (df_slc (DR.mm (dr_var (pv 1))) do_none (do_some (DR.mm (dr_var (pv 2))))))) (DS.mm (DF.s (df_slc (DR.mm (dr_var (pv 1))) (do_some (DS.mm (DF.s (df_op op_addS ru_addS (DR.mm (dr_var (pv 2))) (DS.mm ds_int))))) do_none)))))) (dl_cons (m := true) (DS.mm (DF.s (df_op op_addS ru_addS (DR.mm (dr_var (pv 1))) (DS.mm (DF.s (df_slc (DR.mm (dr_var (pv 1))) do_none (do_some (DS.mm ds_int)))))))) (dl_cons (m := true) (DS.mm (DF.s (df_rev (DR.mm (dr_var (pv 1)))))) (dl_cons (m := true) (DS.mm (DF.s (df_op op_addS ru_addS (DS.mm (DF.s (df_slc (DR.mm (dr_var (pv 1))) (do_some (DR.mm (dr_var (pv 2)))) do_none))) (DS.mm (DF.s (df_slc (DR.mm (dr_var (pv 1))) do_none (do_some (DR.mm (dr_var (pv 2)))))))))) (dl_cons (m := true) (DS.mm (DF.s (df_callTy ru_listOf call_list_of (by rfl) E.fr_list bt_list (dl_cons (m := false) (DR.mm (dr_var (pv 1))) dl_nil)))) (dl_cons (m := true) (DS.mm (DF.s (df_slc (DR.mm (dr_var (pv 1))) do_none (do_some (DR.mm (dr_var (pv 2))))))) (dl_cons (m := true) (DS.mm (ds_tup (dl_nil (m := true)))) (dl_cons (m := true) (DS.mm (DF.s (df_op op_addS ru_addS (DR.mm (dr_var (pv 1))) (DS.mm (ds_tup (dl_cons (m := true) (DS.mm ds_int) dl_nil)))))) dl_nil))))))))))
  (dts_cons (dt_if (db_chn op_lt ru_iiB op_lt ru_iiB (DR.mm (dr_var (pv 2))) (DR.mm (dr_var (pv 3))) (DS.mm (ds_callB ru_len call_len (by rfl) E.fr_len bt_len (dl_cons (m := false) (DR.mm (dr_var (pv 1))) dl_nil))))
  (dts_one (dt_set (i := 4) sc__law_changed.nd (by rfl) (by first | exact .inl rfl | exact .inr rfl) (df_op op_addS ru_addS (DS.mm (ds_var (pv 4))) (DS.mm (DF.s (df_lc (own := [("turn", 6)]) (by rfl) sc__law_changed.nd  (di_rng1 (by rfl) E.fr_range (DS.mm ds_int)) (blkOk_by (by kernel_rfl)) (by decide) (fun s H C cl fp A' hA' => have hA := hA'.trans hA; (dg_name (i := 6) sc__law_changed.nd (by rfl) (by first | exact .inl rfl | exact .inr rfl))) (fun s H C cl fp A' hA' => have hA := hA'.trans hA; dts_yes) (fun s H C cl fp A' hA' => have hA := hA'.trans hA; (DF.s (df_op op_addS ru_addS (DS.mm (DF.s (df_op op_addS ru_addS (DS.mm (DF.s (df_op op_addS ru_addS (DS.mm (DF.s (df_op op_addS ru_addS (DS.mm (DF.s (df_slc (DR.mm (dr_var (pv 1))) do_none (do_some (DR.mm (dr_var (pv 2))))))) (DS.mm (DF.s (df_slc (DR.mm (dr_var (pv 1))) (do_some (DR.mm (dr_var (pv 3)))) (do_some (DS.mm (DF.s (df_op op_addS ru_addS (DR.mm (dr_var (pv 3))) (DS.mm ds_int))))))))))) (DS.mm (DF.s (df_slc (DR.mm (dr_var (pv 1))) (do_some (DS.mm (DF.s (df_op op_addS ru_addS (DR.mm (dr_var (pv 2))) (DS.mm ds_int))))) (do_some (DR.mm (dr_var (pv 3)))))))))) (DS.mm (DF.s (df_slc (DR.mm (dr_var (pv 1))) (do_some (DR.mm (dr_var (pv 2)))) (do_some (DS.mm (DF.s (df_op op_addS ru_addS (DR.mm (dr_var (pv 2))) (DS.mm ds_int))))))))))) (DS.mm (DF.s (df_slc (DR.mm (dr_var (pv 1))) (do_some (DS.mm (DF.s (df_op op_addS ru_addS (DR.mm (dr_var (pv 3))) (DS.mm ds_int))))) do_none))))))))))))
  dts_nil)
  (dts_one (dt_ret (DS.f (ds_ix ix_seq ru_ix (DS.mm (ds_var (pv 4))) (DS.mm (DF.s (df_callR (Fok.calA hA (ok__law_next E)) gd (hr.mono (by omega)) (by rfl) tkF (pv 0) (dl_cons (m := true) (DS.mm (ds_callB ru_len call_len (by rfl) E.fr_len bt_len (dl_cons (m := false) (DR.mm (dr_var (pv 4))) dl_nil))) dl_nil)))) (fun _ _ => rfl))))))))))))))
theorem sc__law_odd : FnScope ["state", "told", "odd", "pick"] ["state", "told"] (defScope (top 16)) := ⟨rfl, rfl, rfl, by decide +kernel, rfl, by decide +kernel, by decide +kernel⟩
theorem ok__law_odd {P : Program} {w : World} {K : PySem.W.Frag} {mg : Str → Option Value} {base : Heap} (E : Fx K mg) : Fok P w K mg base (clsZ K) 43 "_law_odd" 2 [0] d__law_odd :=
  fok_of (k := 42) E.at__law_odd sc__law_odd rfl (fun _ _ _ _ _ _ us hl => match us, hl with | [_, _], _ => rfl) fun f cdv A0 outer s H E' gd hr A hA => by
        have hu := room_u hr
        have hu0 := hr.units
        delta b__law_odd
        exact (dts_cons (dt_set (i := 2) sc__law_odd.nd (by rfl) (by first | exact .inl rfl | exact .inr rfl) (df_lst (dl_cons (m := true) (DS.mm ds_non) (dl_cons (m := true) (DS.mm ds_str) (dl_cons (m := true) (DS.mm ds_str) (dl_cons (m := true) (DS.mm (DF.s df_dctK)) (dl_cons (m := true) (DS.mm (ds_tup (dl_nil (m := true)))) (dl_cons (m := true) (DS.mm (DF.s (df_slc (DR.mm (dr_var (pv 1))) do_none (do_some (DS.mm ds_int))))) (dl_cons (m := true) (DS.mm (DF.s (df_callTy ru_listOf call_list_of (by rfl) E.fr_list bt_list (dl_cons (m := false) (DR.mm (dr_var (pv 1))) dl_nil)))) (dl_cons (m := true) (DS.mm (DF.s (df_op op_addS ru_addS (DR.mm (dr_var (pv 1))) (DS.mm (ds_tup (dl_cons (m := true) (DS.mm ds_int) dl_nil)))))) (dl_cons (m := true) (DS.mm (DF.s (df_op op_addS ru_addS (DS.mm (ds_tup (dl_cons (m := true) (DS.mm (DF.s (df_lst (dl_cons (m := true) (DS.mm (ds_ix ix_seq ru_ix (DR.mm (dr_var (pv 1))) (DS.mm ds_int) (fun _ _ => rfl))) dl_nil)))) dl_nil))) (DS.mm (DF.s (df_slc (DR.mm (dr_var (pv 1))) (do_some (DS.mm ds_int)) do_none)))))) (dl_cons (m := true) (DS.mm (DF.s (df_op op_addS ru_addS (DS.mm (ds_tup (dl_cons (m := true) (DS.mm ds_str) dl_nil))) (DS.mm (DF.s (df_slc (DR.mm (dr_var (pv 1))) (do_some (DS.mm ds_int)) do_none)))))) (dl_cons (m := true) (DS.mm ds_int) dl_nil)))))))))))))
  (dts_cons (dt_set (i := 3) sc__law_odd.nd (by rfl) (by first | exact .inl rfl | exact .inr rfl) (df_callR (Fok.calA hA (ok__law_next E)) gd (hr.mono (by omega)) (by rfl) tkF (pv 0) (dl_cons (m := true) (DS.mm ds_int) dl_nil)))
  (dts_cons (dt_if (db_cmp op_gt ru_iiB (DR.mm (dr_var (pv 3))) (DS.mm ds_int) (nomark _))
  (dts_one (dt_ret (df_callR (Fok.calA hA (ok__law_turned_about E)) gd (hr.mono (by omega)) (by rfl) tkF (pv 0) (dl_cons (m := true) (DS.mm (ds_var (pv 1))) dl_nil))))
  dts_nil)
  (dts_one (dt_ret (df_if (db_cmp (op_eqD hu0) ru_eq (DR.mm (dr_var (pv 3))) (DS.mm ds_int) (nomark _)) (DS.f (ds_ix ix_seq ru_ix (DS.mm (ds_var (pv 2))) (DS.mm (DF.s (df_callR (Fok.calA hA (ok__law_next E)) gd (hr.mono (by omega)) (by rfl) tkF (pv 0) (dl_cons (m := true) (DS.mm (ds_callB ru_len call_len (by rfl) E.fr_len bt_len (dl_cons (m := false) (DR.mm (dr_var (pv 2))) dl_nil))) dl_nil)))) (fun _ _ => rfl))) (df_callR (Fok.calA hA (ok__law_changed E 40)) gd (hr.mono (by omega)) (by rfl) tkF (pv 0) (dl_cons (m := true) (DS.mm (ds_var (pv 1))) dl_nil))))))))
theorem sc_law : FnScope ["script", "state", "seen", "turn", "size", "told", "k", "asked"] ["script"] (defScope (top 20)) := ⟨rfl, rfl, rfl, by decide +kernel, rfl, by decide +kernel, by decide +kernel⟩
theorem ok_law {P : Program} {w : World} {K : PySem.W.Frag} {mg : Str → Option Value} {base : Heap} (E : Fx K mg) {fL : Addr} {fdL : FuncData} (F : FunD K "law" "law" (defArgs (top 20)) (defBody (top 20)) (defScope (top 20)) [] [] fL fdL) : FnG P w K mg base 44 fL fdL ["script"] (spD (clsZ K) 1 [] d_law) :=
  fnok_of (k := 43) F sc_law rfl fun f cdv A0 outer s H E' gd hr A hA => by
        have hu := room_u hr
        have hu0 := hr.units
        delta b_law
        exact (dts_cons (dt_set (i := 1) sc_law.nd (by rfl) (by first | exact .inl rfl | exact .inr rfl) (df_lst (dl_cons (m := true) (DS.mm (DF.s (df_callTy ru_listOf call_list_of (by rfl) E.fr_list bt_list (dl_cons (m := false) (DR.mm (dr_var (pv 0))) dl_nil)))) (dl_cons (m := true) (DS.mm ds_int) (dl_cons (m := true) (DS.mm ds_int) (dl_cons (m := true) (DS.mm ds_int) dl_nil))))))
  (dts_cons (dt_set (i := 2) sc_law.nd (by rfl) (by first | exact .inl rfl | exact .inr rfl) (df_lst (dl_nil (m := true))))
  (dts_cons (dt_for (passes_of (by rfl)) (by rfl) (di_rng1 (by rfl) E.fr_range (DS.mm ds_int)) (dg_name (i := 3) sc_law.nd (by rfl) (by first | exact .inl rfl | exact .inr rfl))
  (dts_cons (dt_set (i := 4) sc_law.nd (by rfl) (by first | exact .inl rfl | exact .inr rfl) (df_op op_addS ru_addS (DS.mm ds_int) (DS.mm (DF.s (df_callR (Fok.calA hA (ok__law_next E)) gd (hr.mono (by omega)) (by rfl) tkF (pv 1) (dl_cons (m := true) (DS.mm ds_int) dl_nil))))))
  (dts_cons (dt_set (i := 5) sc_law.nd (by rfl) (by first | exact .inl rfl | exact .inr rfl) (df_call (Fok.calA hA (ok_ball E)) gd (hr.mono (by omega)) (by rfl) tkF (dl_cons (m := true) (DS.mm (ds_var (pv 4))) dl_nil)))
  (dts_cons (dt_if (DW.bb (dw_or (db_not (db_tru (DS.mm (DF.s (df_call (Fok.calA hA (ok__law_accepts E)) gd (hr.mono (by omega)) (by rfl) tkF (dl_cons (m := true) (DS.mm (ds_var (pv 4))) (dl_cons (m := true) (DS.mm (ds_var (pv 5))) dl_nil))))))) (dw_or1 (db_cmp op_notBl ru_noB (DS.mm (DF.s (df_call (Fok.calA hA (ok_judge_ball E)) gd (hr.mono (by omega)) (by rfl) tkF (dl_cons (m := true) (DS.mm (ds_var (pv 4))) (dl_cons (m := true) (DS.mm (ds_var (pv 5))) dl_nil))))) (DS.mm ds_bl) (nomark _)))))
  (dts_one (dt_ret (DS.f ds_bl)))
  dts_nil)
  (dts_cons (dt_if (db_not (db_tru (DS.mm (DF.s (df_call (Fok.calA hA (ok__law_unfit E)) gd (hr.mono (by omega)) (by rfl) tkF (dl_cons (m := true) (DS.mm ds_int) dl_nil))))))
  (dts_one (dt_ret (DS.f ds_bl)))
  dts_nil)
  (dts_cons (dt_set (i := 2) sc_law.nd (by rfl) (by first | exact .inl rfl | exact .inr rfl) (df_op op_addS ru_addS (DS.mm (DF.s (df_slc (DR.mm (dr_var (pv 2))) (do_some (DS.mm (ds_un un_neg ru_neg (DS.mm ds_int)))) do_none))) (DS.mm (DF.s (df_lst (dl_cons (m := true) (DS.mm (ds_var (pv 5))) dl_nil))))))
  (dts_one (dt_for (passes_of (by rfl)) (by rfl) (di_rng1 (by rfl) E.fr_range (DS.mm (DF.s (df_op op_addS ru_addS (DS.mm ds_int) (DS.mm (ds_callB ru_len call_len (by rfl) E.fr_len bt_len (dl_cons (m := false) (DR.mm (dr_var (pv 2))) dl_nil))))))) (dg_name (i := 6) sc_law.nd (by rfl) (by first | exact .inl rfl | exact .inr rfl))
  (dts_cons (dt_set (i := 7) sc_law.nd (by rfl) (by first | exact .inl rfl | exact .inr rfl) (df_if (db_cmp op_lt ru_iiB (DR.mm (dr_var (pv 6))) (DS.mm ds_int) (nomark _)) (df_callR (Fok.calA hA (ok__law_odd E)) gd (hr.mono (by omega)) (by rfl) tkF (pv 1) (dl_cons (m := true) (DS.mm (ds_var (pv 5))) dl_nil)) (DS.f (ds_ix ix_seq ru_ix (DR.mm (dr_var (pv 2))) (DS.mm (ds_op op_sub ru_sub (DR.mm (dr_var (pv 6))) (DS.mm ds_int))) (fun _ _ => rfl)))))
  (dts_one (dt_if (db_not (db_tru (DS.mm (DF.s (df_call (Fok.calA hA (ok__law_same E 40)) gd (hr.mono (by omega)) (by rfl) tkF (dl_cons (m := true) (DS.mm (DF.s (df_call (Fok.calA hA (ok_judge_ball E)) gd (hr.mono (by omega)) (by rfl) tkF (dl_cons (m := true) (DS.mm (ds_var (pv 4))) (dl_cons (m := true) (DS.mm (ds_var (pv 7))) dl_nil))))) (dl_cons (m := true) (DS.mm (DF.s (df_call (Fok.calA hA (ok__law_accepts E)) gd (hr.mono (by omega)) (by rfl) tkF (dl_cons (m := true) (DS.mm (ds_var (pv 4))) (dl_cons (m := true) (DS.mm (ds_var (pv 7))) dl_nil))))) dl_nil)))))))
  (dts_one (dt_ret (DS.f ds_bl)))
  dts_nil)))))))))))
  (dts_one (dt_ret (DS.f ds_bl))))))
set_option Elab.async false
set_option linter.all false
set_option maxRecDepth 100000
set_option maxHeartbeats 0
open PySem L2
def hfn : List He.DefD := [
  ⟨("ball", none), "ball", "ball", defArgs (top 6), defBody (top 6), defScope (top 6), [], []⟩,
  ⟨("_law_next", none), "_law_next", "_law_next", defArgs (top 9), defBody (top 9), defScope (top 9), [], []⟩,
  ⟨("told_alike", none), "told_alike", "told_alike", defArgs (top 5), defBody (top 5), defScope (top 5), [], []⟩,
  ⟨("judge_ball", none), "judge_ball", "judge_ball", defArgs (top 7), defBody (top 7), defScope (top 7), [], []⟩,
  ⟨("_law_unfit", none), "_law_unfit", "_law_unfit", defArgs (top 19), defBody (top 19), defScope (top 19), [], []⟩,
  ⟨("_law_same", none), "_law_same", "_law_same", defArgs (top 10), defBody (top 10), defScope (top 10), [], []⟩,
  ⟨("_law_parts", none), "_law_parts", "_law_parts", defArgs (top 17), defBody (top 17), defScope (top 17), [], []⟩,
  ⟨("_law_accepts", none), "_law_accepts", "_law_accepts", defArgs (top 18), defBody (top 18), defScope (top 18), [], []⟩,
  ⟨("_law_ints", none), "_law_ints", "_law_ints", defArgs (top 12), defBody (top 12), defScope (top 12), [], []⟩,
  ⟨("_law_exchanged", none), "_law_exchanged", "_law_exchanged", defArgs (top 13), defBody (top 13), defScope (top 13), [], []⟩,
  ⟨("_law_cut", none), "_law_cut", "_law_cut", defArgs (top 14), defBody (top 14), defScope (top 14), [], []⟩,
  ⟨("_law_turned_about", none), "_law_turned_about", "_law_turned_about", defArgs (top 15), defBody (top 15), defScope (top 15), [], []⟩,
  ⟨("_law_changed", none), "_law_changed", "_law_changed", defArgs (top 11), defBody (top 11), defScope (top 11), [], []⟩,
  ⟨("_law_odd", none), "_law_odd", "_law_odd", defArgs (top 16), defBody (top 16), defScope (top 16), [], []⟩,
  ⟨("law", none), "law", "law", defArgs (top 20), defBody (top 20), defScope (top 20), [], []⟩]
def hfa : List He.Fa := [.glo "ball", .glo "_law_next", .glo "told_alike", .glo "judge_ball", .glo "_law_unfit", .glo "_law_same", .glo "_law_parts", .glo "_law_accepts", .glo "_law_ints", .glo "_law_exchanged", .glo "_law_cut", .glo "_law_turned_about", .glo "_law_changed", .glo "_law_odd", .glo "law", .free "ValueError", .free "bool", .free "int", .free "isinstance", .free "len", .free "list", .free "range", .free "repr", .free "sorted", .free "str", .free "tuple", .exm "UnfitShape" "UnfitShape" true, .exm "TooWide" "UnfitShape" false]
def hxs : List PySem.Str := ["UnfitShape", "TooWide"]
abbrev hR : PySem.W.OpenRow := PySem.W.OpenLaw.row PySem.Challenge.rw_shapewhole_k71_balls_and_spheres
abbrev hk : PySem.W.Hook := hookZ 4 hfa hxs hfn
def hob (s : PySem.W.SharedT) : He.AlD := obsZ 4 hfa hxs hfn (HandSHeadRun.getT s)
theorem hob_eq (s : PySem.W.SharedT) : hob s = hk.obs s.abs := obsZ_eq (HandSHeadRun.getT_eq s)
def hloose : List PySem.Str := (["ShapewholeError", "UnfitShape", "TooWide", "told_alike", "ball", "judge_ball", "_law_next", "_law_same", "_law_changed", "_law_ints", "_law_exchanged", "_law_cut", "_law_turned_about", "_law_odd", "_law_parts", "_law_accepts", "_law_unfit"] : List PySem.Str)
theorem hrun (w : World) : HandSHeadRun.RunEq hR (PySem.W.view hR.prog [20]) hk hob 4000 hloose w := by
  intro os
  kernel_rfl
theorem hfx {K : PySem.W.Frag} {h : Heap} {mg : Str → Option Value} (X : K.In h) (G : h.Ns mainGlobals mg) (c : He.SaysD hfa hfn K) (cx : ∀ x ∈ hxs, excOk K x = true) : Fx K mg where
  at_ball := (c.def_ 0).elim fun fd F => ⟨_, fd, F, He.glo_ok X G (c.fact 0)⟩
  at__law_next := (c.def_ 1).elim fun fd F => ⟨_, fd, F, He.glo_ok X G (c.fact 1)⟩
  at_told_alike := (c.def_ 2).elim fun fd F => ⟨_, fd, F, He.glo_ok X G (c.fact 2)⟩
  at_judge_ball := (c.def_ 3).elim fun fd F => ⟨_, fd, F, He.glo_ok X G (c.fact 3)⟩
  at__law_unfit := (c.def_ 4).elim fun fd F => ⟨_, fd, F, He.glo_ok X G (c.fact 4)⟩
  at__law_same := (c.def_ 5).elim fun fd F => ⟨_, fd, F, He.glo_ok X G (c.fact 5)⟩
  at__law_parts := (c.def_ 6).elim fun fd F => ⟨_, fd, F, He.glo_ok X G (c.fact 6)⟩
  at__law_accepts := (c.def_ 7).elim fun fd F => ⟨_, fd, F, He.glo_ok X G (c.fact 7)⟩
  at__law_ints := (c.def_ 8).elim fun fd F => ⟨_, fd, F, He.glo_ok X G (c.fact 8)⟩
  at__law_exchanged := (c.def_ 9).elim fun fd F => ⟨_, fd, F, He.glo_ok X G (c.fact 9)⟩
  at__law_cut := (c.def_ 10).elim fun fd F => ⟨_, fd, F, He.glo_ok X G (c.fact 10)⟩
  at__law_turned_about := (c.def_ 11).elim fun fd F => ⟨_, fd, F, He.glo_ok X G (c.fact 11)⟩
  at__law_changed := (c.def_ 12).elim fun fd F => ⟨_, fd, F, He.glo_ok X G (c.fact 12)⟩
  at__law_odd := (c.def_ 13).elim fun fd F => ⟨_, fd, F, He.glo_ok X G (c.fact 13)⟩
  at_law := (c.def_ 14).elim fun fd F => ⟨_, fd, F, He.glo_ok X G (c.fact 14)⟩
  fr_ValueError := He.free_ok X G (c.fact 15)
  fr_bool := He.free_ok X G (c.fact 16)
  fr_int := He.free_ok X G (c.fact 17)
  fr_isinstance := He.free_ok X G (c.fact 18)
  fr_len := He.free_ok X G (c.fact 19)
  fr_list := He.free_ok X G (c.fact 20)
  fr_range := He.free_ok X G (c.fact 21)
  fr_repr := He.free_ok X G (c.fact 22)
  fr_sorted := He.free_ok X G (c.fact 23)
  fr_str := He.free_ok X G (c.fact 24)
  fr_tuple := He.free_ok X G (c.fact 25)
  ex_UnfitShape := exF_of X G (cx "UnfitShape" (by decide))
  ex_TooWide := exF_of X G (cx "TooWide" (by decide))
  xm_UnfitShape_UnfitShape := He.exm_ok (c.fact 26)
  xm_TooWide_UnfitShape := He.exm_ok (c.fact 27)
set_option Elab.async false
set_option linter.all false
set_option maxRecDepth 100000
open PySem L2

/-! ### answers -/
inductive M (α : Type) where
  | ok (a : α) | exc (c : Nat) | err
namespace M
variable {α β γ : Type}
def bind (m : M α) (f : α → M β) : M β := match m with
  | .ok a => f a
  | .exc c => .exc c
  | .err => .err
@[simp] theorem ok_bind (a : α) (f : α → M β) : (M.ok a).bind f = f a := Eq.trans rfl rfl
@[simp] theorem exc_bind (c : Nat) (f : α → M β) : (M.exc c).bind f = .exc c := Eq.trans rfl rfl
@[simp] theorem err_bind (f : α → M β) : (M.err).bind f = .err := Eq.trans rfl rfl
theorem bind_ok (m : M α) : m.bind .ok = m := by cases m <;> rfl
@[simp] theorem bind_assoc (m : M α) (f : α → M β) (h : β → M γ) : (m.bind f).bind h = m.bind fun a => (f a).bind h := by cases m <;> rfl
def noX : M α → M α
  | .ok a => .ok a
  | _ => .err
@[simp] theorem noX_ok (a : α) : noX (.ok a) = .ok a := Eq.trans rfl rfl
end M
def liftO {α : Type} : Option α → M α
  | some a => .ok a
  | none => .err
def liftS : Option Sl → M D
  | some (.sh d) => .ok d
  | some (.ow d) => .ok d
  | _ => .err

/-! ### what is known of a slot -/
def mutD : D → Bool
  | .list _ => true
  | .dict _ => true
  | _ => false
def VS (s : Sl) (d : D) : Prop := s = .sh d ∨ s = .ow d
def foS (d : D) : Sl := if mutD d = true then .ow d else .sh d
inductive Pk where
  | em | un | an | sh (d : D) | fo (d : D) | va (d : D) | ow (d : D) | rf (d : D) | br (d : D)
abbrev Env := List Pk
def PkOk : Pk → Sl → Prop
  | .em, s => s = .no
  | .un, s => ∀ d, s ≠ .rf d
  | .an, _ => True
  | .sh d, s => s = .sh d
  | .fo d, s => s = foS d
  | .va d, s => VS s d
  | .ow d, s => s = .ow d
  | .rf d, s => s = .rf d
  | .br d, s => VS s d ∨ s = .rf d
theorem foS_vs {d : D} : VS (foS d) d := by
  unfold foS VS
  cases h : mutD d
  · simp
  · simp
inductive All2 {α β : Type} (P : α → β → Prop) : List α → List β → Prop where
  | nil : All2 P [] []
  | cons {a b l m} : P a b → All2 P l m → All2 P (a :: l) (b :: m)
namespace All2
variable {α β : Type} {P Q : α → β → Prop} {l : List α} {m : List β} {a : α} {b : β} {i : Nat}
theorem len (h : All2 P l m) : l.length = m.length := by
  induction h with
  | nil => rfl
  | cons _ _ ih => rw [List.length_cons, List.length_cons, ih]
theorem get (h : All2 P l m) : ∀ {i : Nat} {a : α}, l[i]? = some a → ∃ b, m[i]? = some b ∧ P a b := by
  induction h with
  | nil => intro i a e; simp at e
  | cons p _ ih =>
    intro i a e
    cases i with
    | zero => simp at e; subst e; exact ⟨_, rfl, p⟩
    | succ i => exact ih (i := i) (by simpa using e)
theorem get' (h : All2 P l m) : ∀ {i : Nat} {b : β}, m[i]? = some b → ∃ a, l[i]? = some a ∧ P a b := by
  induction h with
  | nil => intro i a e; simp at e
  | cons p _ ih =>
    intro i a e
    cases i with
    | zero => simp at e; subst e; exact ⟨_, rfl, p⟩
    | succ i => exact ih (i := i) (by simpa using e)
theorem of_get : ∀ {l : List α} {m : List β}, l.length = m.length → (∀ (i : Nat) (a : α) (b : β), l[i]? = some a → m[i]? = some b → P a b) → All2 P l m
  | [], [], _, _ => .nil
  | a :: l, b :: m, e, h => .cons (h 0 a b rfl rfl) (of_get (by simpa using e) fun i x y p q => h (i + 1) x y (by simpa using p) (by simpa using q))
  | [], _ :: _, e, _ => by simp at e
  | _ :: _, [], e, _ => by simp at e
theorem set (h : All2 P l m) (p : P a b) : ∀ {i : Nat}, All2 P (l.set i a) (m.set i b) := by
  induction h with
  | nil => intro i; exact .nil
  | cons q hl ih =>
    intro i
    cases i with
    | zero => exact .cons p hl
    | succ i => exact .cons q (ih (i := i))
theorem setL (h : All2 P l m) (p : ∀ b, m[i]? = some b → P a b) : All2 P (l.set i a) m := by
  refine of_get (by rw [List.length_set]; exact h.len) fun j x y e1 e2 => ?_
  by_cases hij : i = j
  · subst hij
    have hl : i < l.length := by have := (List.getElem?_eq_some_iff.mp e1).1; simpa using this
    rw [List.getElem?_set_self hl] at e1
    cases e1
    exact p y e2
  · rw [List.getElem?_set_ne hij] at e1
    obtain ⟨z, e3, q⟩ := h.get e1
    rw [e2] at e3; cases e3; exact q
theorem mono (h : All2 P l m) (w : ∀ a b, P a b → Q a b) : All2 Q l m := by
  induction h with
  | nil => exact .nil
  | cons p _ ih => exact .cons (w _ _ p) ih
end All2
def Sim (g : Gam) (ρ : Env) : Prop := All2 PkOk ρ g
/-- how an expression may change the slots -/
def KeS : Sl → Sl → Prop
  | .no, t => t = .no
  | .sh d, t => t = .sh d
  | .ow _, t => (∃ d, t = .ow d) ∨ ∃ d, t = .sh d
  | .rf _, t => ∃ d, t = .rf d
def Ke (g g' : Gam) : Prop := All2 KeS g g'
theorem KeS.refl : ∀ s : Sl, KeS s s
  | .no => rfl
  | .sh _ => rfl
  | .ow d => .inl ⟨d, rfl⟩
  | .rf d => ⟨d, rfl⟩
theorem KeS.trans : ∀ {s t u : Sl}, KeS s t → KeS t u → KeS s u
  | .no, t, u, h1, h2 => by have e : t = .no := h1; subst e; exact h2
  | .sh _, t, u, h1, h2 => by have e : t = .sh _ := h1; subst e; exact h2
  | .ow _, t, u, h1, h2 => by
    rcases h1 with ⟨d, rfl⟩ | ⟨d, rfl⟩
    · exact h2
    · exact .inr ⟨d, h2⟩
  | .rf _, t, u, h1, h2 => by obtain ⟨d, rfl⟩ := h1; exact h2
theorem Ke.refl : ∀ g : Gam, Ke g g
  | [] => .nil
  | s :: g => .cons (KeS.refl s) (Ke.refl g)
theorem Ke.trans {g g1 g2 : Gam} (a : Ke g g1) (b : Ke g1 g2) : Ke g g2 :=
  All2.of_get (a.len.trans b.len) fun i s t e1 e2 => by
    obtain ⟨u, e3, h1⟩ := All2.get a e1
    obtain ⟨w, e4, h2⟩ := All2.get b e3
    rw [e2] at e4; cases e4
    exact h1.trans h2
theorem Ke.set {g : Gam} {i : Nat} {s t : Sl} (e : g[i]? = some s) (h : KeS s t) : Ke g (g.set i t) :=
  All2.of_get (by rw [List.length_set]) fun j x y e1 e2 => by
    by_cases hij : i = j
    · subst hij
      rw [e] at e1; cases e1
      have hl : i < g.length := (List.getElem?_eq_some_iff.mp e).1
      rw [List.getElem?_set_self hl] at e2
      cases e2; exact h
    · rw [List.getElem?_set_ne hij, e1] at e2
      cases e2; exact KeS.refl _

/-! ### expressions -/
def ED {α A : Type} (ρ : Env) (fe : Gam → (α → Gam → R) → R) (m : M A) (v : A → α) (ρ' : A → Env) : Prop :=
  ∀ g, Sim g ρ → match m with
    | .ok a => ∃ g', Sim g' (ρ' a) ∧ Ke g g' ∧ ∀ k, fe g k = k (v a) g'
    | .exc c => ∃ g', Ke g g' ∧ ∀ k, fe g k = .exc c g'
    | .err => True
def ES {A : Type} (ρ : Env) (fe : DnS) (kd : D → Pk) (m : M A) (v : A → D) (ρ' : A → Env) : Prop :=
  ∀ g, Sim g ρ → match m with
    | .ok a => ∃ s g', PkOk (kd (v a)) s ∧ Sim g' (ρ' a) ∧ Ke g g' ∧ ∀ k, fe g k = k s g'
    | .exc c => ∃ g', Ke g g' ∧ ∀ k, fe g k = .exc c g'
    | .err => True
/-- a kind of answer: a value -/
def KdV (kd : D → Pk) : Prop := ∀ d s, PkOk (kd d) s → VS s d
theorem kdSh : KdV .sh := fun _ _ h => .inl h
theorem kdFo : KdV .fo := fun _ _ h => by have e : _ = foS _ := h; rw [e]; exact foS_vs
theorem kdVa : KdV .va := fun _ _ h => h
theorem sh_fo {d : D} {s : Sl} (h : PkOk (.sh d) s) : PkOk (.va d) s := .inl h
theorem fo_va {d : D} {s : Sl} (h : PkOk (.fo d) s) : PkOk (.va d) s := kdFo _ _ h

section
variable {α A B C : Type} {ρ : Env} {m : M A} {mb : A → M B} {ρ1 : A → Env} {ρ2 : A → B → Env} {kd : D → Pk}
/-- one after the other -/
theorem ED.seq {β : Type} {fa : Gam → (α → Gam → R) → R} {fb : α → Gam → (β → Gam → R) → R} {v : A → α} {w : B → β} {ρB : B → Env}
    (ha : ED ρ fa m v ρ1) (hb : ∀ a, ED (ρ1 a) (fb (v a)) (mb a) w ρB) : ED ρ (fun g k => fa g fun x g1 => fb x g1 k) (m.bind mb) w ρB := fun g sg => by
  have := ha g sg
  cases m with
  | err => trivial
  | exc c => obtain ⟨g', k1, e⟩ := this; exact ⟨g', k1, fun k => e _⟩
  | ok a =>
    obtain ⟨g1, s1, k1, e1⟩ := this
    have := hb a g1 s1
    show match mb a with
      | .ok b => _
      | .exc c => _
      | .err => _
    cases hm : mb a with
    | err => trivial
    | exc c => rw [hm] at this; obtain ⟨g', k2, e⟩ := this; exact ⟨g', k1.trans k2, fun k => (e1 _).trans (e _)⟩
    | ok b => rw [hm] at this; obtain ⟨g', s2, k2, e⟩ := this; exact ⟨g', s2, k1.trans k2, fun k => (e1 _).trans (e _)⟩
theorem ED.seqS {fa : Gam → (α → Gam → R) → R} {fb : α → DnS} {v : A → α} {w : B → D} {ρB : B → Env}
    (ha : ED ρ fa m v ρ1) (hb : ∀ a, ES (ρ1 a) (fb (v a)) kd (mb a) w ρB) : ES ρ (fun g k => fa g fun x g1 => fb x g1 k) kd (m.bind mb) w ρB := fun g sg => by
  have := ha g sg
  cases m with
  | err => trivial
  | exc c => obtain ⟨g', k1, e⟩ := this; exact ⟨g', k1, fun k => e _⟩
  | ok a =>
    obtain ⟨g1, s1, k1, e1⟩ := this
    have := hb a g1 s1
    show match mb a with
      | .ok b => _
      | .exc c => _
      | .err => _
    cases hm : mb a with
    | err => trivial
    | exc c => rw [hm] at this; obtain ⟨g', k2, e⟩ := this; exact ⟨g', k1.trans k2, fun k => (e1 _).trans (e _)⟩
    | ok b => rw [hm] at this; obtain ⟨s, g', h, s2, k2, e⟩ := this; exact ⟨s, g', h, s2, k1.trans k2, fun k => (e1 _).trans (e _)⟩
theorem ES.seq {β : Type} {fa : DnS} {fb : D → Gam → (β → Gam → R) → R} {v : A → D} {w : B → β} {ρB : B → Env} (hk : KdV kd)
    (ha : ES ρ fa kd m v ρ1) (hb : ∀ a, ED (ρ1 a) (fb (v a)) (mb a) w ρB) {F : Sl → Gam → (β → Gam → R) → R} (hF : ∀ d s g k, VS s d → F s g k = fb d g k) : ED ρ (fun g k => fa g fun x g1 => F x g1 k) (m.bind mb) w ρB := fun g sg => by
  have := ha g sg
  cases m with
  | err => trivial
  | exc c => obtain ⟨g', k1, e⟩ := this; exact ⟨g', k1, fun k => e _⟩
  | ok a =>
    obtain ⟨s, g1, p, s1, k1, e1⟩ := this
    have q := hk _ _ p
    have := hb a g1 s1
    show match mb a with
      | .ok b => _
      | .exc c => _
      | .err => _
    cases hm : mb a with
    | err => trivial
    | exc c => rw [hm] at this; obtain ⟨g', k2, e⟩ := this; exact ⟨g', k1.trans k2, fun k => (e1 _).trans ((hF _ _ _ _ q).trans (e _))⟩
    | ok b => rw [hm] at this; obtain ⟨g', s2, k2, e⟩ := this; exact ⟨g', s2, k1.trans k2, fun k => (e1 _).trans ((hF _ _ _ _ q).trans (e _))⟩
end
section
variable {α A B C E : Type} {ρ : Env} {ma : M A} {mb : A → M B} {mc : A → B → M C} {ρ1 : A → Env} {ρ2 : A → B → Env} {ρ3 : A → B → C → Env} {kd : D → Pk}
theorem ed_pure {fe : Gam → (α → Gam → R) → R} {a : A} {v : A → α} {ρ' : A → Env} (h : ∀ g, Sim g ρ → ∃ g', Sim g' (ρ' a) ∧ Ke g g' ∧ ∀ k, fe g k = k (v a) g') : ED ρ fe (.ok a) v ρ' := h
theorem ed_con {d : D} : ED ρ (conC d) (.ok d) id fun _ => ρ := fun g s => ⟨g, s, Ke.refl g, fun _ => rfl⟩
/-- a slot that can be read -/
def rdP : Pk → Option D
  | .sh d => some d
  | .fo d => some d
  | .va d => some d
  | .ow d => some d
  | .rf d => some d
  | .br d => some d
  | _ => none
theorem rdP_ok {p : Pk} {d : D} {s : Sl} (h : rdP p = some d) (o : PkOk p s) : VS s d ∨ s = .rf d := by
  cases p with
  | em => cases h
  | un => cases h
  | an => cases h
  | sh e => cases h; exact .inl (.inl o)
  | fo e => cases h; exact .inl (kdFo _ _ o)
  | va e => cases h; exact .inl o
  | ow e => cases h; exact .inl (.inr o)
  | rf e => cases h; exact .inr o
  | br e => cases h; exact o
theorem ed_bor {i : Nat} {d : D} (h : (ρ[i]?).bind rdP = some d) : ED ρ (borC i) (.ok d) id fun _ => ρ := fun g s => by
  cases hp : ρ[i]? with
  | none => rw [hp] at h; cases h
  | some p =>
    rw [hp] at h
    obtain ⟨t, e, o⟩ := s.get hp
    refine ⟨g, s, Ke.refl g, fun k => ?_⟩
    unfold borC
    rw [e]
    rcases rdP_ok h o with (rfl | rfl) | rfl <;> rfl
theorem ed_varS {i : Nat} {d : D} (h : ρ[i]? = some (.sh d)) : ED ρ (varC i) (.ok d) id fun _ => ρ := fun g s => by
  obtain ⟨t, e, o⟩ := s.get h
  refine ⟨g, s, Ke.refl g, fun k => ?_⟩
  have o : t = .sh d := o
  unfold varC
  rw [e, o]; rfl
/-- a slot that may be given up -/
def vaP : Pk → Option D
  | .sh d => some d
  | .fo d => some d
  | .va d => some d
  | .ow d => some d
  | _ => none
theorem vaP_ok {p : Pk} {d : D} {s : Sl} (h : vaP p = some d) (o : PkOk p s) : VS s d := by
  cases p with
  | sh e => cases h; exact .inl o
  | fo e => cases h; exact kdFo _ _ o
  | va e => cases h; exact o
  | ow e => cases h; exact .inr o
  | _ => cases h
theorem ed_var {i : Nat} {d : D} (h : (ρ[i]?).bind vaP = some d) : ED ρ (varC i) (.ok d) id fun _ => ρ.set i (.sh d) := fun g s => by
  cases hp : ρ[i]? with
  | none => rw [hp] at h; cases h
  | some p =>
    rw [hp] at h
    obtain ⟨t, e, o⟩ := s.get hp
    rcases vaP_ok h o with rfl | rfl
    · refine ⟨g, All2.setL s fun t e' => ?_, Ke.refl g, fun k => ?_⟩
      · rw [e] at e'; cases e'; exact rfl
      · unfold varC; rw [e]; rfl
    · refine ⟨g.set i (.sh d), All2.set s (show PkOk (.sh d) (.sh d) from rfl), Ke.set e (.inr ⟨d, rfl⟩), fun k => ?_⟩
      unfold varC; rw [e]; rfl
theorem ed_fz {ff : DnS} {v : A → D} (hk : KdV kd) (h : ES ρ ff kd ma v ρ1) : ED ρ (fz ff) ma v ρ1 := fun g s => by
  have := h g s
  cases ma with
  | err => trivial
  | exc c => obtain ⟨g', k1, e⟩ := this; exact ⟨g', k1, fun k => e _⟩
  | ok a =>
    obtain ⟨t, g', o, s', k1, e⟩ := this
    refine ⟨g', s', k1, fun k => ?_⟩
    unfold fz
    rw [e]
    rcases hk _ _ o with rfl | rfl <;> rfl
theorem es_sh {ff : DnD} {v : A → D} (h : ED ρ ff ma v ρ1) : ES ρ (shF ff) .sh ma v ρ1 := fun g s => by
  have := h g s
  cases ma with
  | err => trivial
  | exc c => obtain ⟨g', k1, e⟩ := this; exact ⟨g', k1, fun k => e _⟩
  | ok a =>
    obtain ⟨g', s', k1, e⟩ := this
    exact ⟨_, g', rfl, s', k1, fun k => e _⟩
theorem es_va {ff : DnS} {v : A → D} (hk : KdV kd) (h : ES ρ ff kd ma v ρ1) : ES ρ ff .va ma v ρ1 := fun g s => by
  have := h g s
  cases ma with
  | err => trivial
  | exc c => exact this
  | ok a =>
    obtain ⟨t, g', o, r⟩ := this
    exact ⟨t, g', hk _ _ o, r⟩
/-- an operation's answer -/
theorem ed_liftO {β : Type} {o : Option α} {v : C → β} {p : α → C} {ρ' : C → Env} {F : α → β} {fe : Gam → (β → Gam → R) → R} (hF : ∀ g k x, o = some x → fe g k = k (F x) g) (e : ∀ x, v (p x) = F x ∧ ρ' (p x) = ρ) :
    ED ρ fe ((liftO o).bind fun d => .ok (p d)) v ρ' := fun g s => by
  cases o with
  | none => trivial
  | some x => exact ⟨g, by rw [(e x).2]; exact s, Ke.refl g, fun k => by rw [hF g k x rfl, (e x).1]⟩
theorem ed_bin {op : D → D → Option D} {fa fb : DnD} {va : A → D} {vb : A → B → D} {p : A → B → D → C} {v : C → D} {ρ' : C → Env}
    (ha : ED ρ fa ma va ρ1) (hb : ∀ a, ED (ρ1 a) fb (mb a) (vb a) (ρ2 a)) (e : ∀ a b d, v (p a b d) = d ∧ ρ' (p a b d) = ρ2 a b) :
    ED ρ (binD op fa fb) (ma.bind fun a => (mb a).bind fun b => (liftO (op (va a) (vb a b))).bind fun d => .ok (p a b d)) v ρ' :=
  ED.seq (fb := fun x g1 k => fb g1 fun y g2 => kopD (op x y) g2 k) ha fun a => ED.seq (fb := fun y g2 k => kopD (op (va a) y) g2 k) (hb a) fun b => ed_liftO (F := id) (fun g k x h => by rw [h]; rfl) fun d => e a b d
theorem ed_binB {op : D → D → Option Bool} {fa fb : DnD} {va : A → D} {vb : A → B → D} {p : A → B → Bool → C} {v : C → Bool} {ρ' : C → Env}
    (ha : ED ρ fa ma va ρ1) (hb : ∀ a, ED (ρ1 a) fb (mb a) (vb a) (ρ2 a)) (e : ∀ a b d, v (p a b d) = d ∧ ρ' (p a b d) = ρ2 a b) :
    ED ρ (binB op fa fb) (ma.bind fun a => (mb a).bind fun b => (liftO (op (va a) (vb a b))).bind fun d => .ok (p a b d)) v ρ' :=
  ED.seq (fb := fun x g1 k => fb g1 fun y g2 => match op x y with
    | some s => k s g2
    | none => .err) ha fun a => ED.seq (fb := fun y g2 k => match op (va a) y with
    | some s => k s g2
    | none => .err) (hb a) fun b => ed_liftO (F := id) (fun g k x h => by rw [h]; rfl) fun d => e a b d
theorem es_liftS {o : Option Sl} {v : C → D} {p : D → C} {ρ' : C → Env} {fe : DnS} (ho : ∀ s, o = some s → ∃ d, s = foS d) (hF : ∀ g k s, o = some s → fe g k = k s g) (e : ∀ x, v (p x) = x ∧ ρ' (p x) = ρ) :
    ES ρ fe .fo ((liftS o).bind fun d => .ok (p d)) v ρ' := fun g s => by
  cases o with
  | none => trivial
  | some x =>
    obtain ⟨d, hd⟩ := ho x rfl
    have : liftS (some x) = .ok d := by rw [hd]; unfold foS; split <;> rfl
    rw [this]
    exact ⟨x, g, by rw [(e d).1]; exact hd, by rw [(e d).2]; exact s, Ke.refl g, fun k => hF g k x rfl⟩
theorem es_bin {op : D → D → Option Sl} (ho : ∀ x y s, op x y = some s → ∃ d, s = foS d) {fa fb : DnD} {va : A → D} {vb : A → B → D} {p : A → B → D → C} {v : C → D} {ρ' : C → Env}
    (ha : ED ρ fa ma va ρ1) (hb : ∀ a, ED (ρ1 a) fb (mb a) (vb a) (ρ2 a)) (e : ∀ a b d, v (p a b d) = d ∧ ρ' (p a b d) = ρ2 a b) :
    ES ρ (binF op fa fb) .fo (ma.bind fun a => (mb a).bind fun b => (liftS (op (va a) (vb a b))).bind fun d => .ok (p a b d)) v ρ' :=
  ED.seqS (fb := fun x g1 k => fb g1 fun y g2 => kop (op x y) g2 k) ha fun a => ED.seqS (fb := fun y g2 k => kop (op (va a) y) g2 k) (hb a) fun b => es_liftS (ho _ _) (fun g k s h => by rw [h]; rfl) fun d => e a b d
theorem ed_un {op : D → Option D} {fa : DnD} {va : A → D} {p : A → D → C} {v : C → D} {ρ' : C → Env}
    (ha : ED ρ fa ma va ρ1) (e : ∀ a d, v (p a d) = d ∧ ρ' (p a d) = ρ1 a) :
    ED ρ (unD op fa) (ma.bind fun a => (liftO (op (va a))).bind fun d => .ok (p a d)) v ρ' :=
  ED.seq (fb := fun x g1 k => kopD (op x) g1 k) ha fun a => ed_liftO (F := id) (fun g k x h => by rw [h]; rfl) fun d => e a d
theorem es_un {op : D → Option Sl} (ho : ∀ x s, op x = some s → ∃ d, s = foS d) {fa : DnD} {va : A → D} {p : A → D → C} {v : C → D} {ρ' : C → Env}
    (ha : ED ρ fa ma va ρ1) (e : ∀ a d, v (p a d) = d ∧ ρ' (p a d) = ρ1 a) :
    ES ρ (unF op fa) .fo (ma.bind fun a => (liftS (op (va a))).bind fun d => .ok (p a d)) v ρ' :=
  ED.seqS (fb := fun x g1 k => kop (op x) g1 k) ha fun a => es_liftS (ho _) (fun g k s h => by rw [h]; rfl) fun d => e a d
theorem ed_tru {fa : DnD} {va : A → D} {p : A → Bool → C} {v : C → Bool} {ρ' : C → Env}
    (ha : ED ρ fa ma va ρ1) (e : ∀ a d, v (p a d) = d ∧ ρ' (p a d) = ρ1 a) :
    ED ρ (truB fa) (ma.bind fun a => (liftO (truD (va a))).bind fun d => .ok (p a d)) v ρ' :=
  ED.seq (fb := fun x g1 k => match truD x with
    | some b => k b g1
    | none => .err) ha fun a => ed_liftO (F := id) (fun g k x h => by rw [h]; rfl) fun d => e a d
theorem ed_notV {fa : DnD} {va : A → D} {p : A → Bool → C} {v : C → D} {ρ' : C → Env}
    (ha : ED ρ fa ma va ρ1) (e : ∀ a d, v (p a d) = .bool (!d) ∧ ρ' (p a d) = ρ1 a) :
    ED ρ (notV fa) (ma.bind fun a => (liftO (truD (va a))).bind fun d => .ok (p a d)) v ρ' :=
  ED.seq (fb := fun x g1 k => match truD x with
    | some b => k (PyData.bool (!b)) g1
    | none => .err) ha fun a => ed_liftO (F := fun b => PyData.bool (!b)) (fun g k x h => by show (match truD (va a) with | some b => k (PyData.bool (!b)) g | none => .err) = _; rw [h]) fun d => e a d
theorem ed_map {β : Type} {fa : Gam → (α → Gam → R) → R} {va : A → α} {F : α → β} {v : A → β} {fe : Gam → (β → Gam → R) → R} (hf : ∀ g k, fe g k = fa g fun x g' => k (F x) g') (e : ∀ a, v a = F (va a))
    (ha : ED ρ fa ma va ρ1) : ED ρ fe ma v ρ1 := fun g s => by
  have := ha g s
  cases ma with
  | err => trivial
  | exc c => obtain ⟨g', k1, h⟩ := this; exact ⟨g', k1, fun k => by rw [hf, h]⟩
  | ok a => obtain ⟨g', s', k1, h⟩ := this; exact ⟨g', s', k1, fun k => by rw [hf, h, e]⟩
theorem ed_not {ft : DnB} {va : A → Bool} (ha : ED ρ ft ma va ρ1) : ED ρ (notB ft) ma (fun a => !(va a)) ρ1 := ed_map (F := not) (fun _ _ => rfl) (fun _ => rfl) ha
theorem ed_yes : ED ρ yesB (.ok true) id fun _ => ρ := fun g s => ⟨g, s, Ke.refl g, fun _ => rfl⟩
/-- both, or one of them; the slots behind are the weaker ones -/
theorem ed_ifc {ft : DnB} {fa fb : Gam → (α → Gam → R) → R} {vt : A → Bool} {m1 m2 : A → M C} {v : C → α} {ρ' : C → Env}
    (ht : ED ρ ft ma vt ρ1) (h1 : ∀ a, ED (ρ1 a) fa (m1 a) v ρ') (h2 : ∀ a, ED (ρ1 a) fb (m2 a) v ρ') :
    ED ρ (ifC ft fa fb) (ma.bind fun a => if vt a = true then m1 a else m2 a) v ρ' :=
  ED.seq (fb := fun b g1 k => if b = true then fa g1 k else fb g1 k) ht fun a => by
    cases vt a with
    | true => exact h1 a
    | false => exact h2 a
theorem es_ifc {ft : DnB} {fa fb : DnS} {vt : A → Bool} {m1 m2 : A → M C} {v : C → D} {ρ' : C → Env}
    (ht : ED ρ ft ma vt ρ1) (h1 : ∀ a, ES (ρ1 a) fa kd (m1 a) v ρ') (h2 : ∀ a, ES (ρ1 a) fb kd (m2 a) v ρ') :
    ES ρ (ifC ft fa fb) kd (ma.bind fun a => if vt a = true then m1 a else m2 a) v ρ' :=
  ED.seqS (fb := fun b g1 k => if b = true then fa g1 k else fb g1 k) ht fun a => by
    cases vt a with
    | true => exact h1 a
    | false => exact h2 a
theorem ed_const {c : C} {fe : Gam → (α → Gam → R) → R} {v : C → α} {ρ' : C → Env} {x : α} (hf : ∀ g k, fe g k = k x g) (e : v c = x ∧ ρ' c = ρ) : ED ρ fe (.ok c) v ρ' := fun g s => ⟨g, by rw [e.2]; exact s, Ke.refl g, fun k => by rw [hf, e.1]⟩
theorem ed_and {fa fb : DnB} {va : A → Bool} {m2 : A → M C} {p : A → C} {v : C → Bool} {ρ' : C → Env}
    (ha : ED ρ fa ma va ρ1) (h2 : ∀ a, ED (ρ1 a) fb (m2 a) v ρ') (e : ∀ a, v (p a) = false ∧ ρ' (p a) = ρ1 a) :
    ED ρ (andB fa fb) (ma.bind fun a => if va a = true then m2 a else .ok (p a)) v ρ' :=
  ED.seq (fb := fun b g1 k => if b = true then fb g1 k else k false g1) ha fun a => by
    cases va a with
    | true => exact h2 a
    | false => exact ed_const (x := false) (fun _ _ => rfl) (e a)
theorem ed_or {fa fb : DnB} {va : A → Bool} {m2 : A → M C} {p : A → C} {v : C → Bool} {ρ' : C → Env}
    (ha : ED ρ fa ma va ρ1) (h2 : ∀ a, ED (ρ1 a) fb (m2 a) v ρ') (e : ∀ a, v (p a) = true ∧ ρ' (p a) = ρ1 a) :
    ED ρ (orB fa fb) (ma.bind fun a => if va a = true then .ok (p a) else m2 a) v ρ' :=
  ED.seq (fb := fun b g1 k => if b = true then k true g1 else fb g1 k) ha fun a => by
    cases va a with
    | true => exact ed_const (x := true) (fun _ _ => rfl) (e a)
    | false => exact h2 a
theorem ed_andV {fa fb : DnD} {va : A → D} {m2 : A → M C} {p : A → C} {v : C → D} {ρ' : C → Env}
    (ha : ED ρ fa ma va ρ1) (h2 : ∀ a, ED (ρ1 a) fb (m2 a) v ρ') (e : ∀ a, v (p a) = va a ∧ ρ' (p a) = ρ1 a) :
    ED ρ (andV fa fb) (ma.bind fun a => (liftO (truD (va a))).bind fun t => if t = true then m2 a else .ok (p a)) v ρ' :=
  ED.seq (fb := fun x g1 k => match truD x with
    | some true => fb g1 k
    | some false => k x g1
    | none => .err) ha fun a => by
    cases h : truD (va a) with
    | none => exact fun g s => trivial
    | some t =>
      cases t with
      | true => exact h2 a
      | false => exact ed_const (x := va a) (fun _ _ => rfl) (e a)
theorem ed_orV {fa fb : DnD} {va : A → D} {m2 : A → M C} {p : A → C} {v : C → D} {ρ' : C → Env}
    (ha : ED ρ fa ma va ρ1) (h2 : ∀ a, ED (ρ1 a) fb (m2 a) v ρ') (e : ∀ a, v (p a) = va a ∧ ρ' (p a) = ρ1 a) :
    ED ρ (orV fa fb) (ma.bind fun a => (liftO (truD (va a))).bind fun t => if t = true then .ok (p a) else m2 a) v ρ' :=
  ED.seq (fb := fun x g1 k => match truD x with
    | some true => k x g1
    | some false => fb g1 k
    | none => .err) ha fun a => by
    cases h : truD (va a) with
    | none => exact fun g s => trivial
    | some t =>
      cases t with
      | false => exact h2 a
      | true => exact ed_const (x := va a) (fun _ _ => rfl) (e a)
theorem ed_chn {o1 o2 : D → D → Option Bool} {fa fb fc : DnD} {va : A → D} {vb : A → B → D} {vc : A → B → C → D} {p : A → B → E} {q : A → B → C → Bool → E} {v : E → Bool} {ρ' : E → Env}
    (ha : ED ρ fa ma va ρ1) (hb : ∀ a, ED (ρ1 a) fb (mb a) (vb a) (ρ2 a)) (hc : ∀ a b, ED (ρ2 a b) fc (mc a b) (vc a b) (ρ3 a b)) (e1 : ∀ a b, v (p a b) = false ∧ ρ' (p a b) = ρ2 a b) (e2 : ∀ a b c d, v (q a b c d) = d ∧ ρ' (q a b c d) = ρ3 a b c) :
    ED ρ (chnB o1 o2 fa fb fc) (ma.bind fun a => (mb a).bind fun b => (liftO (o1 (va a) (vb a b))).bind fun t => if t = true then (mc a b).bind fun c => (liftO (o2 (vb a b) (vc a b c))).bind fun d => .ok (q a b c d) else .ok (p a b)) v ρ' :=
  ED.seq (fb := fun x g1 k => fb g1 fun y g2 => match o1 x y with
    | some true => fc g2 fun z g3 => match o2 y z with
      | some s => k s g3
      | none => .err
    | some false => k false g2
    | none => .err) ha fun a => ED.seq (fb := fun y g2 k => match o1 (va a) y with
    | some true => fc g2 fun z g3 => match o2 y z with
      | some s => k s g3
      | none => .err
    | some false => k false g2
    | none => .err) (hb a) fun b => by
    cases h : o1 (va a) (vb a b) with
    | none => exact fun g s => trivial
    | some t =>
      cases t with
      | false => exact ed_const (x := false) (fun _ _ => rfl) (e1 a b)
      | true =>
        show ED _ _ ((mc a b).bind fun c => (liftO (o2 (vb a b) (vc a b c))).bind fun d => .ok (q a b c d)) _ _
        exact ED.seq (fb := fun z g3 k => match o2 (vb a b) z with
          | some s => k s g3
          | none => .err) (hc a b) fun c => ed_liftO (F := id) (fun g k x h => by rw [h]; rfl) fun d => e2 a b c d
/-- lists of arguments -/
theorem el_nil : ED ρ nilC (.ok []) id fun _ => ρ := fun g s => ⟨g, s, Ke.refl g, fun _ => rfl⟩
theorem el_cons {fa : DnD} {fs : DnL} {va : A → D} {vb : A → B → List D} {p : A → B → C} {v : C → List D} {ρ' : C → Env}
    (ha : ED ρ fa ma va ρ1) (hb : ∀ a, ED (ρ1 a) fs (mb a) (vb a) (ρ2 a)) (e : ∀ a b, v (p a b) = va a :: vb a b ∧ ρ' (p a b) = ρ2 a b) :
    ED ρ (consC fa fs) (ma.bind fun a => (mb a).bind fun b => .ok (p a b)) v ρ' :=
  ED.seq (fb := fun x g1 k => fs g1 fun xs g2 => k (x :: xs) g2) ha fun a => ED.seq (fb := fun xs g2 k => k (va a :: xs) g2) (hb a) fun b => ed_const (x := va a :: vb a b) (fun _ _ => rfl) (e a b)
theorem ed_tup {fs : DnL} {va : A → List D} (ha : ED ρ fs ma va ρ1) : ED ρ (tupC fs) ma (fun a => .tuple (va a)) ρ1 := ed_map (F := .tuple) (fun _ _ => rfl) (fun _ => rfl) ha
theorem es_lst {fs : DnL} {va : A → List D} (ha : ED ρ fs ma va ρ1) : ES ρ (lstC fs) .fo ma (fun a => .list (va a)) ρ1 := fun g s => by
  have := ha g s
  cases ma with
  | err => trivial
  | exc c => obtain ⟨g', k1, e⟩ := this; exact ⟨g', k1, fun k => e _⟩
  | ok a =>
    obtain ⟨g', s', k1, e⟩ := this
    exact ⟨_, g', rfl, s', k1, fun k => e _⟩
theorem es_dct : ES ρ dctC .fo (.ok ()) (fun _ => .dict []) (fun _ => ρ) := fun g s => ⟨_, g, rfl, s, Ke.refl g, fun _ => rfl⟩
theorem es_ops {op : List D → Option Sl} (ho : ∀ x s, op x = some s → ∃ d, s = foS d) {fs : DnL} {va : A → List D} {p : A → D → C} {v : C → D} {ρ' : C → Env}
    (ha : ED ρ fs ma va ρ1) (e : ∀ a d, v (p a d) = d ∧ ρ' (p a d) = ρ1 a) :
    ES ρ (opsF op fs) .fo (ma.bind fun a => (liftS (op (va a))).bind fun d => .ok (p a d)) v ρ' :=
  ED.seqS (fb := fun x g1 k => kop (op x) g1 k) ha fun a => es_liftS (ho _) (fun g k s h => by rw [h]; rfl) fun d => e a d
theorem ed_ops {op : List D → Option D} {fs : DnL} {va : A → List D} {p : A → D → C} {v : C → D} {ρ' : C → Env}
    (ha : ED ρ fs ma va ρ1) (e : ∀ a d, v (p a d) = d ∧ ρ' (p a d) = ρ1 a) :
    ED ρ (opsD op fs) (ma.bind fun a => (liftO (op (va a))).bind fun d => .ok (p a d)) v ρ' :=
  ED.seq (fb := fun x g1 k => kopD (op x) g1 k) ha fun a => ed_liftO (F := id) (fun g k x h => by rw [h]; rfl) fun d => e a d
theorem ed_isi {Ts : List String} {f : DnD} {va : A → D} (ha : ED ρ f ma va ρ1) : ED ρ (isiC Ts f) ma (fun a => .bool (instAny Ts (va a))) ρ1 := ed_map (F := fun d => .bool (instAny Ts d)) (fun _ _ => rfl) (fun _ => rfl) ha
theorem eo_no : ED ρ noO (.ok ()) (fun _ => none) fun _ => ρ := fun g s => ⟨g, s, Ke.refl g, fun _ => rfl⟩
def intM : D → M Int
  | .int i => .ok i
  | _ => .err
theorem eo_at {f : DnD} {va : A → D} {p : A → Int → C} {v : C → Option Int} {ρ' : C → Env} (ha : ED ρ f ma va ρ1) (e : ∀ a d, v (p a d) = some d ∧ ρ' (p a d) = ρ1 a) :
    ED ρ (atO f) (ma.bind fun a => (intM (va a)).bind fun i => .ok (p a i)) v ρ' :=
  ED.seq (fb := fun d g' k => match d with
  | .int i => k (some i) g'
  | _ => .err) ha fun a => by
    cases h : va a with
    | int i => exact ed_const (x := some i) (fun _ _ => rfl) (e a i)
    | _ => exact fun g s => trivial
theorem es_slc (ho : ∀ x lo hi s, cutF x lo hi = some s → ∃ d, s = foS d) {fa : DnD} {fl fh : DnO} {va : A → D} {vb : A → B → Option Int} {vc : A → B → C → Option Int} {p : A → B → C → D → E} {v : E → D} {ρ' : E → Env}
    (ha : ED ρ fa ma va ρ1) (hb : ∀ a, ED (ρ1 a) fl (mb a) (vb a) (ρ2 a)) (hc : ∀ a b, ED (ρ2 a b) fh (mc a b) (vc a b) (ρ3 a b)) (e : ∀ a b c d, v (p a b c d) = d ∧ ρ' (p a b c d) = ρ3 a b c) :
    ES ρ (slcC fa fl fh) .fo (ma.bind fun a => (mb a).bind fun b => (mc a b).bind fun c => (liftS (cutF (va a) (vb a b) (vc a b c))).bind fun d => .ok (p a b c d)) v ρ' :=
  ED.seqS (fb := fun x g1 k => fl g1 fun lo g2 => fh g2 fun hi g3 => kop (cutF x lo hi) g3 k) ha fun a => ED.seqS (fb := fun lo g2 k => fh g2 fun hi g3 => kop (cutF (va a) lo hi) g3 k) (hb a) fun b =>
    ED.seqS (fb := fun hi g3 k => kop (cutF (va a) (vb a b) hi) g3 k) (hc a b) fun c => es_liftS (ho _ _ _) (fun g k s h => by rw [h]; rfl) fun d => e a b c d
def isStr : D → M Unit
  | .str _ => .ok ()
  | _ => .err
theorem ed_join {fa fb : DnD} {va : A → D} {vb : A → B → D} {p : A → B → D → C} {v : C → D} {ρ' : C → Env}
    (ha : ED ρ fa ma va ρ1) (hb : ∀ a, ED (ρ1 a) fb (mb a) (vb a) (ρ2 a)) (e : ∀ a b d, v (p a b d) = d ∧ ρ' (p a b d) = ρ2 a b) :
    ED ρ (joinC fa fb) (ma.bind fun a => (isStr (va a)).bind fun _ => (mb a).bind fun b => (liftO (joinD (va a) (vb a b))).bind fun d => .ok (p a b d)) v ρ' :=
  ED.seq (fb := fun x g1 k => match x with
  | .str _ => fb g1 fun y g2 => kopD (joinD x y) g2 k
  | _ => .err) ha fun a => by
    cases h : va a with
    | str z =>
      show ED _ _ ((mb a).bind fun b => (liftO (joinD (.str z) (vb a b))).bind fun d => .ok (p a b d)) _ _
      exact ED.seq (fb := fun y g2 k => kopD (joinD (.str z) y) g2 k) (hb a) fun b => by
        have e' := e a b
        exact ed_liftO (F := id) (fun g k x h => by rw [h]; rfl) fun d => e' d
    | _ => exact fun g s => trivial
end
theorem foSh {d : D} (h : mutD d = false) : ∃ e, Sl.sh d = foS e := ⟨d, by unfold foS; rw [h]; rfl⟩
theorem foOw {d : D} (h : mutD d = true) : ∃ e, Sl.ow d = foS e := ⟨d, by unfold foS; rw [h]; rfl⟩
theorem fo_add (x y : D) (s : Sl) (h : addS x y = some s) : ∃ d, s = foS d := by
  unfold addS at h
  split at h
  · cases h; first | exact foSh rfl | exact foOw rfl
  · split at h <;> cases h; first | exact foSh rfl | exact foOw rfl
  · split at h <;> cases h; first | exact foSh rfl | exact foOw rfl
  · split at h <;> cases h; first | exact foSh rfl | exact foOw rfl
  · cases h
theorem fo_cut (x : D) (lo hi : Option Int) (s : Sl) (h : cutF x lo hi = some s) : ∃ d, s = foS d := by
  unfold cutF at h
  split at h
  · cases h; first | exact foSh rfl | exact foOw rfl
  · cases h; first | exact foSh rfl | exact foOw rfl
  · split at h <;> cases h; first | exact foSh rfl | exact foOw rfl
  · cases h
theorem fo_rev (x : D) (s : Sl) (h : revF x = some s) : ∃ d, s = foS d := by
  unfold revF at h
  split at h
  · cases h; first | exact foSh rfl | exact foOw rfl
  · cases h; first | exact foSh rfl | exact foOw rfl
  · split at h <;> cases h; first | exact foSh rfl | exact foOw rfl
  · cases h
theorem fo_listF (x : List D) (s : Sl) (h : listF x = some s) : ∃ d, s = foS d := by
  unfold listF at h
  split at h
  · cases h; first | exact foSh rfl | exact foOw rfl
  · cases h; first | exact foSh rfl | exact foOw rfl
  · cases h
theorem fo_sort (x : List D) (s : Sl) (h : sortF x = some s) : ∃ d, s = foS d := by
  unfold sortF at h
  split at h
  · split at h <;> cases h; first | exact foSh rfl | exact foOw rfl
  · split at h <;> cases h; first | exact foSh rfl | exact foOw rfl
  · cases h
set_option Elab.async false
set_option linter.all false
set_option maxRecDepth 100000
open PySem L2

/-! ### calls -/
def Fr (m : M D) (r : Rs) : Prop := match m with
  | .ok d => ∃ s, r = .ok s [] ∧ VS s d
  | .exc c => r = .exc c
  | .err => True
def Fr1 (m : M (D × D)) (r : Rs) : Prop := match m with
  | .ok p => ∃ s, r = .ok s [p.2] ∧ VS s p.1
  | .exc _ => False
  | .err => True
/-- an own slot -/
def muP : Pk → Option D
  | .ow d => some d
  | .rf d => some d
  | .fo d => some d
  | _ => none
def muR : Pk → Option D
  | .ow d => some d
  | .rf d => some d
  | .fo (.list ds) => some (.list ds)
  | _ => none
def toP (p : Option Pk) (d : D) : Pk := match p with
  | some (.rf _) => .rf d
  | some (.fo _) => .fo d
  | _ => .ow d
def toR (p : Option Pk) (d : D) : Pk := match p with
  | some (.rf _) => .rf d
  | _ => .ow d
section
variable {α A B C E : Type} {ρ : Env} {ma : M A} {mb : A → M B} {mc : A → B → M C} {ρ1 : A → Env} {ρ2 : A → B → Env} {ρ3 : A → B → C → Env} {kd : D → Pk}
def cK (r : Rs) (g : Gam) (k : KS) : R := match r with
  | .ok s [] => k s g
  | .exc c => .exc c g
  | _ => .err
theorem es_call {φ : Fd} {mf : List D → M D} (hf : ∀ ds, Fr (mf ds) (φ ds)) {fs : DnL} {va : A → List D} {p : A → D → C} {v : C → D} {ρ' : C → Env}
    (ha : ED ρ fs ma va ρ1) (e : ∀ a d, v (p a d) = d ∧ ρ' (p a d) = ρ1 a) :
    ES ρ (callC φ fs) .va (ma.bind fun a => (mf (va a)).bind fun d => .ok (p a d)) v ρ' :=
  ED.seqS (fb := fun ds g' k => cK (φ ds) g' k) ha fun a g s => by
    have := hf (va a)
    cases h : mf (va a) with
    | err => trivial
    | exc c =>
      rw [h] at this
      have this : φ (va a) = .exc c := this
      exact ⟨g, Ke.refl g, fun k => by rw [this]; rfl⟩
    | ok d =>
      rw [h] at this
      obtain ⟨t, h1, h2⟩ := this
      exact ⟨t, g, by rw [(e a d).1]; exact h2, by rw [(e a d).2]; exact s, Ke.refl g, fun k => by rw [h1]; rfl⟩
theorem muR_ok {p : Pk} {d : D} {s : Sl} (h : muR p = some d) (o : PkOk p s) : s = .ow d ∨ s = .rf d := by
  cases p with
  | ow e => cases h; exact .inl o
  | rf e => cases h; exact .inr o
  | fo e =>
    cases e with
    | list ds => cases h; exact .inl o
    | _ => cases h
  | _ => cases h
theorem toR_ok {p : Pk} {d e : D} {s : Sl} (h : muR p = some d) (o : PkOk p s) : PkOk (toR (some p) e) (s.to e) := by
  cases p with
  | ow x => cases h; have o : s = .ow d := o; rw [o]; exact rfl
  | rf x => cases h; have o : s = .rf d := o; rw [o]; exact rfl
  | fo x =>
    cases x with
    | list ds => cases h; have o : s = .ow (.list ds) := o; rw [o]; exact rfl
    | _ => cases h
  | _ => cases h
theorem es_callR {φ : Fd} {mf : List D → M (D × D)} (hf : ∀ ds, Fr1 (mf ds) (φ ds)) {i : Nat} {fs : DnL} {w0 : D} {w : A → D} {va : A → List D} {p : A → D × D → C} {v : C → D} {ρ' : C → Env}
    (h0 : (ρ[i]?).bind muR = some w0) (ha : ED ρ fs ma va ρ1) (h1 : ∀ a, ((ρ1 a)[i]?).bind muR = some (w a)) (e : ∀ a r, v (p a r) = r.1 ∧ ρ' (p a r) = (ρ1 a).set i (toR ((ρ1 a)[i]?) r.2)) :
    ES ρ (callRC i φ fs) .va (ma.bind fun a => (mf (w a :: va a)).bind fun r => .ok (p a r)) v ρ' := fun g sg => by
  cases hp : ρ[i]? with
  | none => rw [hp] at h0; cases h0
  | some q0 =>
  rw [hp] at h0
  obtain ⟨s0, e0, o0⟩ := sg.get hp
  have ho : owOf g[i]? = some w0 := by
    rw [e0]; rcases muR_ok h0 o0 with rfl | rfl <;> rfl
  have := ha g sg
  cases ma with
  | err => trivial
  | exc c => obtain ⟨g', k1, e⟩ := this; exact ⟨g', k1, fun k => by unfold callRC; rw [ho]; exact e _⟩
  | ok a =>
    obtain ⟨g1, s1, k1, e1⟩ := this
    have h1 := h1 a
    cases hp1 : (ρ1 a)[i]? with
    | none => rw [hp1] at h1; cases h1
    | some q1 =>
    rw [hp1] at h1
    obtain ⟨t1, f1, o1⟩ := s1.get hp1
    have ho1 : owOf g1[i]? = some (w a) := by
      rw [f1]; rcases muR_ok h1 o1 with rfl | rfl <;> rfl
    have := hf (w a :: va a)
    show match (mf (w a :: va a)).bind fun r => M.ok (p a r) with
      | .ok a => _
      | .exc c => _
      | .err => _
    cases hm : mf (w a :: va a) with
    | err => trivial
    | exc c => rw [hm] at this; exact this.elim
    | ok r =>
      rw [hm] at this
      obtain ⟨t, q1', q2⟩ := this
      have hst : stTo g1 i r.2 = g1.set i (t1.to r.2) := by unfold stTo; rw [f1]
      refine ⟨t, stTo g1 i r.2, by rw [(e a r).1]; exact q2, ?_, ?_, fun k => ?_⟩
      · rw [(e a r).2, hst, hp1]
        exact All2.set s1 (toR_ok h1 o1)
      · rw [hst]
        exact k1.trans (Ke.set f1 (by rcases muR_ok h1 o1 with rfl | rfl; exact .inl ⟨_, rfl⟩; exact ⟨_, rfl⟩))
      · unfold callRC
        rw [ho]
        show fs g _ = _
        rw [e1]
        show (match owOf g1[i]? with
          | some d0 => match φ (d0 :: va a) with
            | .ok s [d1] => k s (stTo g1 i d1)
            | _ => .err
          | none => .err) = _
        rw [ho1]
        show (match φ (w a :: va a) with
            | .ok s [d1] => k s (stTo g1 i d1)
            | _ => .err) = _
        rw [q1']
def mutM (op : List D → List D → Option (D × List D)) (d : D) (as : List D) : M (D × List D) := match d with
  | .list ds => liftO (op ds as)
  | _ => .err
theorem muP_lst {p : Pk} {d : D} {s : Sl} {es : List D} (h : muP p = some d) (hd : d = .list es) (o : PkOk p s) : s = .ow (.list es) ∨ s = .rf (.list es) := by
  subst hd
  cases p with
  | ow e => cases h; exact .inl o
  | rf e => cases h; exact .inr o
  | fo e => cases h; exact .inl o
  | _ => cases h
theorem toP_ok {p : Pk} {d : D} {s : Sl} {es fs : List D} (h : muP p = some d) (hd : d = .list es) (o : PkOk p s) : PkOk (toP (some p) (.list fs)) (s.to (.list fs)) := by
  subst hd
  cases p with
  | ow x => cases h; have o : s = .ow (.list es) := o; rw [o]; exact rfl
  | rf x => cases h; have o : s = .rf (.list es) := o; rw [o]; exact rfl
  | fo x => cases h; have o : s = .ow (.list es) := o; rw [o]; exact rfl
  | _ => cases h
def isLst : D → M Unit
  | .list _ => .ok ()
  | _ => .err
theorem ed_mut {op : List D → List D → Option (D × List D)} {i : Nat} {fs : DnL} {w0 : D} {w : A → D} {va : A → List D} {p : A → D × List D → C} {v : C → D} {ρ' : C → Env}
    (h0 : (ρ[i]?).bind muP = some w0) (ha : ED ρ fs ma va ρ1) (h1 : ∀ a, ((ρ1 a)[i]?).bind muP = some (w a)) (e : ∀ a r, v (p a r) = r.1 ∧ ρ' (p a r) = (ρ1 a).set i (toP ((ρ1 a)[i]?) (.list r.2))) :
    ED ρ (mutC i fs op) ((isLst w0).bind fun _ => ma.bind fun a => (mutM op (w a) (va a)).bind fun r => .ok (p a r)) v ρ' := fun g sg => by
  cases hp : ρ[i]? with
  | none => rw [hp] at h0; cases h0
  | some q0 =>
  rw [hp] at h0
  obtain ⟨s0, e0, o0⟩ := sg.get hp
  have := ha g sg
  cases hes : w0 with
  | list es =>
    have ho : lstOf g[i]? = some es := by
      rw [e0]; rcases muP_lst h0 hes o0 with rfl | rfl <;> rfl
    cases ma with
    | err => trivial
    | exc c => obtain ⟨g', k1, e⟩ := this; exact ⟨g', k1, fun k => by unfold mutC; rw [ho]; exact e _⟩
    | ok a =>
      obtain ⟨g1, s1, k1, e1⟩ := this
      have h1 := h1 a
      cases hp1 : (ρ1 a)[i]? with
      | none => rw [hp1] at h1; cases h1
      | some q1 =>
      rw [hp1] at h1
      obtain ⟨t1, f1, o1⟩ := s1.get hp1
      show match (mutM op (w a) (va a)).bind fun r => M.ok (p a r) with
        | .ok a => _
        | .exc c => _
        | .err => _
      cases hw' : w a with
      | list ds =>
        have ho1 : lstOf g1[i]? = some ds := by
          rw [f1]; rcases muP_lst h1 hw' o1 with rfl | rfl <;> rfl
        show match (liftO (op ds (va a))).bind fun r => M.ok (p a r) with
          | .ok a => _
          | .exc c => _
          | .err => _
        cases hm : op ds (va a) with
        | none => trivial
        | some r =>
          have hst : stTo g1 i (.list r.2) = g1.set i (t1.to (.list r.2)) := by unfold stTo; rw [f1]
          refine ⟨stTo g1 i (.list r.2), ?_, ?_, fun k => ?_⟩
          · rw [(e a r).2, hst, hp1]
            exact All2.set s1 (toP_ok h1 hw' o1)
          · rw [hst]
            exact k1.trans (Ke.set f1 (by rcases muP_lst h1 hw' o1 with rfl | rfl; exact .inl ⟨_, rfl⟩; exact ⟨_, rfl⟩))
          · unfold mutC
            rw [ho]
            show fs g _ = _
            rw [e1]
            show (match lstOf g1[i]? with
              | some ds => match op ds (va a) with
                | some (d, ds') => k d (stTo g1 i (.list ds'))
                | none => .err
              | none => .err) = _
            rw [ho1]
            show (match op ds (va a) with
                | some (d, ds') => k d (stTo g1 i (.list ds'))
                | none => .err) = _
            rw [hm, (e a r).1]
      | _ => trivial
  | _ => trivial
end
set_option Elab.async false
set_option linter.all false
set_option maxRecDepth 100000
open PySem L2

/-! ### weaker knowledge -/
def PkLe (p : Pk) : Pk → Prop
  | .an => True
  | .un => match p with
    | .an => False
    | .rf _ => False
    | .br _ => False
    | _ => True
  | .va d => p = .va d ∨ p = .sh d ∨ p = .fo d ∨ p = .ow d
  | .br d => rdP p = some d
  | .ow d => p = .ow d ∨ (p = .fo d ∧ mutD d = true)
  | .fo d => p = .fo d ∨ (p = .sh d ∧ mutD d = false) ∨ (p = .ow d ∧ mutD d = true)
  | q => p = q
theorem PkLe.refl : ∀ p : Pk, PkLe p p
  | .em => rfl
  | .un => trivial
  | .an => trivial
  | .sh _ => rfl
  | .fo _ => .inl rfl
  | .va _ => .inl rfl
  | .ow _ => .inl rfl
  | .rf _ => rfl
  | .br _ => rfl
theorem PkLe.ok {p q : Pk} (h : PkLe p q) {s : Sl} (o : PkOk p s) : PkOk q s := by
  cases q with
  | an => trivial
  | em => have e : p = _ := h; subst e; exact o
  | sh d => have e : p = _ := h; subst e; exact o
  | rf d => have e : p = _ := h; subst e; exact o
  | br d =>
    rcases rdP_ok (p := p) h o with (h | h) | h
    · exact .inl (.inl h)
    · exact .inl (.inr h)
    · exact .inr h
  | va d =>
    rcases h with rfl | rfl | rfl | rfl
    · exact o
    · exact .inl o
    · exact kdFo _ _ o
    · exact .inr o
  | ow d =>
    rcases h with rfl | ⟨rfl, e⟩
    · exact o
    · have o : s = foS d := o
      rw [o]; unfold foS; rw [e]; exact rfl
  | fo d =>
    rcases h with rfl | ⟨rfl, e⟩ | ⟨rfl, e⟩
    · exact o
    · have o : s = .sh d := o
      show s = foS d
      rw [o]; unfold foS; rw [e]; rfl
    · have o : s = .ow d := o
      show s = foS d
      rw [o]; unfold foS; rw [e]; rfl
  | un =>
    intro d e
    subst e
    cases p with
    | em => cases o
    | un => exact o d rfl
    | an => exact h
    | sh x => cases o
    | fo x => have o : Sl.rf d = foS x := o; unfold foS at o; split at o <;> cases o
    | va x => rcases o with o | o <;> cases o
    | ow x => cases o
    | rf x => exact h
    | br x => exact h
def LeE (ρ ρ' : Env) : Prop := All2 PkLe ρ ρ'
theorem LeE.refl : ∀ ρ : Env, LeE ρ ρ
  | [] => .nil
  | p :: ρ => .cons (PkLe.refl p) (LeE.refl ρ)
theorem LeE.sim {ρ ρ' : Env} (h : LeE ρ ρ') {g : Gam} (s : Sim g ρ) : Sim g ρ' :=
  All2.of_get (h.len.symm.trans s.len) fun i q t e1 e2 => by
    obtain ⟨p, e3, w⟩ := All2.get' h e1
    obtain ⟨u, e4, o⟩ := s.get e3
    rw [e2] at e4; cases e4
    exact w.ok o


/-! ### what a run's end tells -/
structure Rl (φ ω : Type) where
  bs : R → φ → Prop
  bsr : ∀ r w, bs r w → ∃ s g, r = .ret s g
  rel : R → M ω → Prop
  emb : φ → ω
  px : Gam → Prop
  err : ∀ r, rel r .err
  exc : ∀ c g, px g → rel (.exc c g) (.exc c)
  ret : ∀ r w, bs r w → rel r (.ok (emb w))
def RT {φ ω : Type} (Ω : Rl φ ω) (ρ : Env) (T : DnT) (k : Gam → R) (m : M ω) : Prop := ∀ g, Sim g ρ → Ω.rel (T g k) m
def RK {φ ω : Type} (Ω : Rl φ ω) (ρ : Env) (k : Gam → R) (m : M ω) : Prop := ∀ g, Sim g ρ → Ω.rel (k g) m
def PX {φ ω : Type} (Ω : Rl φ ω) (ρ : Env) : Prop := ∀ g g', Sim g ρ → Ke g g' → Ω.px g'

section
variable {φ ω : Type} {Ω : Rl φ ω} {α A B C E : Type} {ρ : Env} {ma : M A} {mb : A → M B} {ρ1 : A → Env} {ρ2 : A → B → Env} {kd : D → Pk} {k : Gam → R} {κ : A → M ω}
theorem rt_ed {fe : Gam → (α → Gam → R) → R} {va : A → α} (he : ED ρ fe ma va ρ1) (hx : PX Ω ρ) {K : α → Gam → R} (hk : ∀ a, RK Ω (ρ1 a) (K (va a)) (κ a)) : ∀ g, Sim g ρ → Ω.rel (fe g K) (ma.bind κ) := fun g sg => by
  have := he g sg
  cases ma with
  | err => exact Ω.err _
  | exc c => obtain ⟨g', k1, e⟩ := this; rw [e]; exact Ω.exc c g' (hx g g' sg k1)
  | ok a => obtain ⟨g', s1, k1, e⟩ := this; rw [e]; exact hk a g' s1
theorem rt_es {fe : DnS} {va : A → D} (he : ES ρ fe kd ma va ρ1) (hx : PX Ω ρ) {K : Sl → Gam → R} (hk : ∀ a s, PkOk (kd (va a)) s → RK Ω (ρ1 a) (K s) (κ a)) : ∀ g, Sim g ρ → Ω.rel (fe g K) (ma.bind κ) := fun g sg => by
  have := he g sg
  cases ma with
  | err => exact Ω.err _
  | exc c => obtain ⟨g', k1, e⟩ := this; rw [e]; exact Ω.exc c g' (hx g g' sg k1)
  | ok a => obtain ⟨s, g', o, s1, k1, e⟩ := this; rw [e]; exact hk a s o g' s1
theorem rk_of {m : M ω} {T : DnT} (h : RT Ω ρ T k m) : RK Ω ρ (fun g => T g k) m := h
theorem rt_le {ρ' : Env} {m : M ω} {T : DnT} (l : LeE ρ ρ') (h : RT Ω ρ' T k m) : RT Ω ρ T k m := fun g s => h g (l.sim s)
theorem rk_le {ρ' : Env} {m : M ω} (l : LeE ρ ρ') (h : RK Ω ρ' k m) : RK Ω ρ k m := fun g s => h g (l.sim s)
theorem rt_seq {s1 s2 : DnT} {m : M ω} (h : RT Ω ρ s1 (fun g => s2 g k) m) : RT Ω ρ (seqT s1 s2) k m := h
theorem rt_skip {m : M ω} (h : RK Ω ρ k m) : RT Ω ρ skipT k m := h
theorem rt_err : RT Ω ρ errT k .err := fun g _ => Ω.err _
theorem rt_drop {fe : Gam → (α → Gam → R) → R} {va : A → α} (he : ED ρ fe ma va ρ1) (hx : PX Ω ρ) (hk : ∀ a, RK Ω (ρ1 a) k (κ a)) : RT Ω ρ (dropT fe) k (ma.bind κ) :=
  rt_ed (K := fun _ g => k g) he hx hk
theorem rt_dropS {fe : DnS} {va : A → D} (he : ES ρ fe kd ma va ρ1) (hx : PX Ω ρ) (hk : ∀ a, RK Ω (ρ1 a) k (κ a)) : RT Ω ρ (dropT fe) k (ma.bind κ) :=
  rt_es (K := fun _ g => k g) he hx fun a _ _ => hk a
/-- a slot that can be stored -/
def stP : Pk → Bool
  | .em => true
  | .un => true
  | .sh _ => true
  | .fo _ => true
  | .va _ => true
  | .ow _ => true
  | _ => false
theorem stP_ok {p : Pk} {s : Sl} (h : stP p = true) (o : PkOk p s) : ∀ d, s ≠ .rf d := by
  intro d e
  subst e
  cases p with
  | em => cases o
  | un => exact o d rfl
  | sh x => cases o
  | fo x => have o : Sl.rf d = foS x := o; unfold foS at o; split at o <;> cases o
  | va x => rcases o with o | o <;> cases o
  | ow x => cases o
  | _ => cases h
theorem stC_go {i : Nat} {g : Gam} {d : D} {s t : Sl} {k : Gam → R} (e : g[i]? = some t) (n : ∀ d, t ≠ .rf d) (h : VS s d) : stC i s g k = k (g.set i s) := by
  unfold stC
  rw [e]
  cases t with
  | rf x => exact absurd rfl (n x)
  | _ => rcases h with rfl | rfl <;> rfl
theorem st_at {i : Nat} {g : Gam} (h : (ρ[i]?).map stP = some true) (s : Sim g ρ) : ∃ t, g[i]? = some t ∧ ∀ d, t ≠ .rf d := by
  cases hp : ρ[i]? with
  | none => rw [hp] at h; cases h
  | some p =>
    rw [hp] at h
    obtain ⟨t, e, o⟩ := s.get hp
    exact ⟨t, e, stP_ok (by simpa using h) o⟩
theorem rt_asg {i : Nat} {fe : DnS} {va : A → D} (hv : KdV kd) (he : ES ρ fe kd ma va ρ1) (hx : PX Ω ρ) (hs : ∀ a, ((ρ1 a)[i]?).map stP = some true)
    (hk : ∀ a, RK Ω ((ρ1 a).set i (kd (va a))) k (κ a)) : RT Ω ρ (asgT i fe) k (ma.bind κ) :=
  rt_es (K := fun s g' => stC i s g' k) he hx fun a s o g sg => by
    obtain ⟨t, e, n⟩ := st_at (hs a) sg
    show Ω.rel (stC i s g k) _
    rw [stC_go e n (hv _ _ o)]
    exact hk a _ (All2.set sg o)
theorem rt_if {ft : DnB} {va : A → Bool} {s1 s2 : DnT} {m1 m2 : A → M ω} (ht : ED ρ ft ma va ρ1) (hx : PX Ω ρ) (h1 : ∀ a, RT Ω (ρ1 a) s1 k (m1 a)) (h2 : ∀ a, RT Ω (ρ1 a) s2 k (m2 a)) :
    RT Ω ρ (iffT ft s1 s2) k (ma.bind fun a => if va a = true then m1 a else m2 a) :=
  rt_ed (K := fun b g1 => if b = true then s1 g1 k else s2 g1 k) ht hx fun a g sg => by
    cases h : va a with
    | true => exact h1 a g sg
    | false => exact h2 a g sg
theorem rt_raise {c : Nat} (hx : PX Ω ρ) : RT Ω ρ (raiseT c) k (.exc c) := fun g sg => Ω.exc c g (hx g g sg (Ke.refl g))
theorem rt_raiseE {c : Nat} {fe : DnD} {va : A → D} (he : ED ρ fe ma va ρ1) (hx : PX Ω ρ) (hx2 : ∀ a, PX Ω (ρ1 a)) : RT Ω ρ (raiseE c fe) k (ma.bind fun _ => .exc c) :=
  rt_ed (K := fun _ g' => .exc c g') he hx fun a g sg => Ω.exc c g (hx2 a g g sg (Ke.refl g))
def bs0 (r : R) (d : D) : Prop := ∃ s g, r = .ret s g ∧ VS s d
def bs1 (r : R) (p : D × D) : Prop := ∃ s g, r = .ret s g ∧ VS s p.1 ∧ g[0]? = some (.rf p.2)
end
section
variable {ω : Type} {A B C E : Type} {ρ : Env} {ma : M A} {ρ1 : A → Env} {kd : D → Pk} {k : Gam → R}
theorem rt_ret0 {Ω : Rl D ω} (hb : Ω.bs = bs0) {fe : DnS} {va : A → D} (hv : KdV kd) (he : ES ρ fe kd ma va ρ1) (hx : PX Ω ρ) : RT Ω ρ (retT fe) k (ma.bind fun a => .ok (Ω.emb (va a))) :=
  rt_es (K := fun s g' => .ret s g') he hx fun a s o g sg => Ω.ret _ _ (by rw [hb]; exact ⟨s, g, rfl, hv _ _ o⟩)
theorem rt_ret1 {Ω : Rl (D × D) ω} (hb : Ω.bs = bs1) {fe : DnS} {va e : A → D} (hv : KdV kd) (he : ES ρ fe kd ma va ρ1) (hx : PX Ω ρ) (hr : ∀ a, (ρ1 a)[0]? = some (.rf (e a))) : RT Ω ρ (retT fe) k (ma.bind fun a => .ok (Ω.emb (va a, e a))) :=
  rt_es (K := fun s g' => .ret s g') he hx fun a s o g sg => Ω.ret _ _ (by
    obtain ⟨t, e1, o1⟩ := sg.get (hr a)
    have o1 : t = .rf (e a) := o1
    rw [hb]; exact ⟨s, g, rfl, hv _ _ o, by rw [e1, o1]⟩)
theorem retV_go {i : Nat} {d : D} {g : Gam} (h : (ρ[i]?).bind vaP = some d) (sg : Sim g ρ) : ∃ s g', retV i g k = .ret s g' ∧ VS s d ∧ ∀ j, j ≠ i → g'[j]? = g[j]? := by
  cases hp : ρ[i]? with
  | none => rw [hp] at h; cases h
  | some p =>
    rw [hp] at h
    obtain ⟨t, e, o⟩ := sg.get hp
    unfold retV
    rw [e]
    rcases vaP_ok h o with rfl | rfl
    · exact ⟨_, _, rfl, .inl rfl, fun _ _ => rfl⟩
    · exact ⟨_, _, rfl, .inr rfl, fun j hj => List.getElem?_set_ne (fun z => hj z.symm)⟩
theorem rt_retV0 {Ω : Rl D ω} (hb : Ω.bs = bs0) {i : Nat} {d : D} (h : (ρ[i]?).bind vaP = some d) : RT Ω ρ (retV i) k (.ok (Ω.emb d)) := fun g sg => by
  obtain ⟨s, g', e, v, _⟩ := retV_go (k := k) h sg
  rw [e]
  exact Ω.ret _ _ (by rw [hb]; exact ⟨s, g', rfl, v⟩)
theorem rt_retV1 {Ω : Rl (D × D) ω} (hb : Ω.bs = bs1) {i : Nat} {d e : D} (h : (ρ[i]?).bind vaP = some d) (hr : ρ[0]? = some (.rf e)) (hi : 0 ≠ i) : RT Ω ρ (retV i) k (.ok (Ω.emb (d, e))) := fun g sg => by
  obtain ⟨s, g', e', v, w⟩ := retV_go (k := k) h sg
  obtain ⟨t, e1, o1⟩ := sg.get hr
  have o1 : t = .rf e := o1
  rw [e']
  exact Ω.ret _ _ (by rw [hb]; exact ⟨s, g', rfl, v, by rw [w 0 hi, e1, o1]⟩)
theorem rt_retN0 {Ω : Rl D ω} (hb : Ω.bs = bs0) : RT Ω ρ retN k (.ok (Ω.emb .none)) := fun g sg => Ω.ret _ _ (by rw [hb]; exact ⟨_, g, rfl, .inl rfl⟩)
theorem rk_end0 {Ω : Rl D ω} (hb : Ω.bs = bs0) : RK Ω ρ (fun g => .ret (.sh .none) g) (.ok (Ω.emb .none)) := fun g sg => Ω.ret _ _ (by rw [hb]; exact ⟨_, g, rfl, .inl rfl⟩)
theorem rt_retN1 {Ω : Rl (D × D) ω} (hb : Ω.bs = bs1) {e : D} (hr : ρ[0]? = some (.rf e)) : RT Ω ρ retN k (.ok (Ω.emb (.none, e))) := fun g sg => Ω.ret _ _ (by
  obtain ⟨t, e1, o1⟩ := sg.get hr
  have o1 : t = .rf e := o1
  rw [hb]; exact ⟨_, g, rfl, .inl rfl, by rw [e1, o1]⟩)
theorem rk_end1 {Ω : Rl (D × D) ω} (hb : Ω.bs = bs1) {e : D} (hr : ρ[0]? = some (.rf e)) : RK Ω ρ (fun g => .ret (.sh .none) g) (.ok (Ω.emb (.none, e))) := fun g sg => Ω.ret _ _ (by
  obtain ⟨t, e1, o1⟩ := sg.get hr
  have o1 : t = .rf e := o1
  rw [hb]; exact ⟨_, g, rfl, .inl rfl, by rw [e1, o1]⟩)
end
/-! ### a def's answer -/
def Rl0 : Rl D D where
  bs := bs0
  bsr := fun r w ⟨s, g, e, _⟩ => ⟨s, g, e⟩
  rel := fun r m => match m with
    | .ok d => bs0 r d
    | .exc c => ∃ g, r = .exc c g
    | .err => True
  emb := id
  px := fun _ => True
  err := fun _ => trivial
  exc := fun c g _ => ⟨g, rfl⟩
  ret := fun _ _ h => h
def Rl1 : Rl (D × D) (D × D) where
  bs := bs1
  bsr := fun r w ⟨s, g, e, _⟩ => ⟨s, g, e⟩
  rel := fun r m => match m with
    | .ok d => bs1 r d
    | .exc c => ∃ g, r = .exc c g
    | .err => True
  emb := id
  px := fun _ => True
  err := fun _ => trivial
  exc := fun c g _ => ⟨g, rfl⟩
  ret := fun _ _ h => h
theorem sim_start : ∀ (ds : List D) (n i : Nat), Sim (startG [] i ds ++ List.replicate n .no) (ds.map .sh ++ List.replicate n .em)
  | [], 0, _ => .nil
  | [], n + 1, i => .cons rfl (sim_start [] n i)
  | d :: ds, n, i => .cons (by rw [if_neg List.not_mem_nil]; exact rfl) (sim_start ds n (i + 1))
theorem fr_of {n : Nat} {f : DnT} {ds : List D} {m : M D} (h : RT Rl0 (ds.map .sh ++ List.replicate (n - ds.length) .em) f (fun g => .ret (.sh .none) g) m) : Fr m (fnD n [] f ds) := by
  have := h _ (sim_start ds (n - ds.length) 0)
  unfold fnD
  cases m with
  | err => trivial
  | exc c => obtain ⟨g, e⟩ := this; rw [e]; rfl
  | ok d => obtain ⟨s, g, e, v⟩ := this; rw [e]; exact ⟨s, rfl, v⟩
theorem startG_ne : ∀ (ds : List D) (i : Nat), startG [0] (i + 1) ds = ds.map .sh
  | [], _ => rfl
  | d :: ds, i => by unfold startG; rw [if_neg (by simp), startG_ne ds (i + 1)]; rfl
theorem sim_start1 (d : D) (ds : List D) (n : Nat) : Sim (startG [0] 0 (d :: ds) ++ List.replicate n .no) (.rf d :: (ds.map .sh ++ List.replicate n .em)) := by
  have e : startG [0] 0 (d :: ds) = .rf d :: ds.map .sh := by unfold startG; rw [if_pos (by simp), startG_ne]
  rw [e]
  refine .cons rfl ?_
  have := sim_start ds n 0
  have e2 : ∀ (ds : List D) i, startG [] i ds = ds.map .sh := by
    intro ds
    induction ds with
    | nil => intro i; rfl
    | cons d ds ih => intro i; unfold startG; rw [if_neg List.not_mem_nil, ih]; rfl
  rw [e2] at this
  exact this
theorem fr1_of {n : Nat} {f : DnT} {d : D} {ds : List D} {m : M (D × D)} (h : RT Rl1 (.rf d :: (ds.map .sh ++ List.replicate (n - (d :: ds).length) .em)) f (fun g => .ret (.sh .none) g) m) : Fr1 m.noX (fnD n [0] f (d :: ds)) := by
  have := h _ (sim_start1 d ds (n - (d :: ds).length))
  unfold fnD
  cases m with
  | err => trivial
  | exc c => trivial
  | ok p => obtain ⟨s, g, e, v, w⟩ := this; rw [e]; exact ⟨s, by
    have hr : refsG g [0] = some [p.2] := by simp [refsG, w]
    show (match refsG g [0] with | some rs => Rs.ok s rs | none => .err) = _
    rw [hr], v⟩
/-! ### joined ways -/
def RlJ {φ ω S : Type} (Ω : Rl φ ω) (κ : S → M ω) : Rl Empty S where
  bs := fun _ e => e.elim
  bsr := fun _ e => e.elim
  rel := fun r m => Ω.rel r (m.bind κ)
  emb := Empty.elim
  px := Ω.px
  err := fun r => Ω.err r
  exc := fun c g h => Ω.exc c g h
  ret := fun _ e => e.elim
theorem rt_join {φ ω S : Type} {Ω : Rl φ ω} {κ : S → M ω} {ρ : Env} {T : DnT} {k : Gam → R} {m : M S} (ρj : S → Env) (hk : ∀ s, RK Ω (ρj s) k (κ s)) (h : (∀ s, RK (RlJ Ω κ) (ρj s) k (.ok s)) → RT (RlJ Ω κ) ρ T k m) : RT Ω ρ T k (m.bind κ) :=
  h hk
theorem rk_jn {φ ω S : Type} {Ω : Rl φ ω} {κ : S → M ω} {ρj : S → Env} {ρ : Env} {k : Gam → R} (hk : ∀ s, RK Ω (ρj s) k (κ s)) (s : S) (l : LeE ρ (ρj s)) : RK Ω ρ k (κ s) := rk_le l (hk s)
set_option Elab.async false
set_option linter.all false
set_option maxRecDepth 100000
open PySem L2

/-! ### targets -/
def KeX (vs : List Nat) (g g' : Gam) : Prop := g'.length = g.length ∧ ∀ i s, i ∉ vs → g[i]? = some s → ∃ t, g'[i]? = some t ∧ KeS s t
theorem Ke.x {g g' : Gam} (h : Ke g g') {vs : List Nat} : KeX vs g g' := ⟨h.len.symm, fun i s _ e => h.get e⟩
theorem KeX.trans {vs : List Nat} {g g1 g2 : Gam} (a : KeX vs g g1) (b : KeX vs g1 g2) : KeX vs g g2 := ⟨b.1.trans a.1, fun i s n e => by
  obtain ⟨t, e1, h1⟩ := a.2 i s n e
  obtain ⟨u, e2, h2⟩ := b.2 i t n e1
  exact ⟨u, e2, h1.trans h2⟩⟩
theorem KeX.set {vs : List Nat} {g : Gam} {i : Nat} {s : Sl} (h : i ∈ vs) : KeX vs g (g.set i s) := ⟨by rw [List.length_set], fun j t n e => by
  have ne : i ≠ j := fun z => n (by rw [← z]; exact h)
  exact ⟨t, by rw [List.getElem?_set_ne ne]; exact e, KeS.refl t⟩⟩
def GT {A : Type} (vs : List Nat) (ρ : Env) (fg : Gam → (Gam → R) → R) (m : M A) (ρ' : A → Env) : Prop :=
  ∀ g, Sim g ρ → match m with
    | .ok a => ∃ g', Sim g' (ρ' a) ∧ KeX vs g g' ∧ ∀ k, fg g k = k g'
    | .exc _ => False
    | .err => True
section
variable {vs : List Nat} {ρ : Env} {d : D}
theorem gt_name {i : Nat} (hi : i ∈ vs) (h : (ρ[i]?).map stP = some true) : GT vs ρ (nameG i d) (.ok ()) fun _ => ρ.set i (.sh d) := fun g sg => by
  obtain ⟨t, e, n⟩ := st_at h sg
  exact ⟨g.set i (.sh d), All2.set sg (show PkOk (.sh d) (.sh d) from rfl), KeX.set hi, fun k => stC_go e n (.inl rfl)⟩
def tup2 : D → M (D × D)
  | .tuple [a, b] => .ok (a, b)
  | _ => .err
def tup3 : D → M (D × D × D)
  | .tuple [a, b, c] => .ok (a, b, c)
  | _ => .err
theorem tup2_ok {p : D × D} (h : tup2 d = .ok p) : d = .tuple [p.1, p.2] := by
  unfold tup2 at h
  split at h
  · cases h; rfl
  · cases h
theorem tup3_ok {p : D × D × D} (h : tup3 d = .ok p) : d = .tuple [p.1, p.2.1, p.2.2] := by
  unfold tup3 at h
  split at h
  · cases h; rfl
  · cases h
theorem tup2_exc {c : Nat} (h : tup2 d = .exc c) : False := by
  unfold tup2 at h
  split at h <;> cases h
theorem tup3_exc {c : Nat} (h : tup3 d = .exc c) : False := by
  unfold tup3 at h
  split at h <;> cases h
theorem gt_two {A B : Type} {fa fb : DnG} {m1 : D × D → M A} {m2 : D × D → A → M B} {ρ1 : D × D → A → Env} {C : Type} {p : D × D → A → B → C} {ρ' : C → Env} (h1 : ∀ q, GT vs ρ (fa q.1) (m1 q) (ρ1 q)) (h2 : ∀ q a, GT vs (ρ1 q a) (fb q.2) (m2 q a) fun b => ρ' (p q a b)) :
    GT vs ρ (tupG 2 (consG fa (consG fb nilG)) d) ((tup2 d).bind fun q => (m1 q).bind fun a => (m2 q a).bind fun b => .ok (p q a b)) ρ' := fun g sg => by
  cases h : tup2 d with
  | err => trivial
  | exc c => exact (tup2_exc h).elim
  | ok q =>
    have e := tup2_ok h
    have := h1 q g sg
    show match (m1 q).bind fun a => (m2 q a).bind fun b => M.ok (p q a b) with
      | .ok a => _
      | .exc _ => _
      | .err => _
    cases hm : m1 q with
    | err => trivial
    | exc c => rw [hm] at this; exact this.elim
    | ok a =>
      rw [hm] at this
      obtain ⟨g1, s1, k1, e1⟩ := this
      have := h2 q a g1 s1
      show match (m2 q a).bind fun b => M.ok (p q a b) with
        | .ok a => _
        | .exc _ => _
        | .err => _
      cases hm2 : m2 q a with
      | err => trivial
      | exc c => rw [hm2] at this; exact this.elim
      | ok b =>
        rw [hm2] at this
        obtain ⟨g2, s2, k2, e2⟩ := this
        refine ⟨g2, s2, k1.trans k2, fun k => ?_⟩
        rw [e]
        show fa q.1 g _ = _
        rw [e1]
        show fb q.2 g1 _ = _
        rw [e2]; rfl
theorem gt_three {A B E : Type} {fa fb fc : DnG} {m1 : D × D × D → M A} {m2 : D × D × D → A → M B} {m3 : D × D × D → A → B → M E} {ρ1 : D × D × D → A → Env} {ρ2 : D × D × D → A → B → Env} {C : Type} {p : D × D × D → A → B → E → C} {ρ' : C → Env} (h1 : ∀ q, GT vs ρ (fa q.1) (m1 q) (ρ1 q)) (h2 : ∀ q a, GT vs (ρ1 q a) (fb q.2.1) (m2 q a) (ρ2 q a)) (h3 : ∀ q a b, GT vs (ρ2 q a b) (fc q.2.2) (m3 q a b) fun c => ρ' (p q a b c)) :
    GT vs ρ (tupG 3 (consG fa (consG fb (consG fc nilG))) d) ((tup3 d).bind fun q => (m1 q).bind fun a => (m2 q a).bind fun b => (m3 q a b).bind fun c => .ok (p q a b c)) ρ' := fun g sg => by
  cases h : tup3 d with
  | err => trivial
  | exc c => exact (tup3_exc h).elim
  | ok q =>
    have e := tup3_ok h
    have := h1 q g sg
    show match (m1 q).bind fun a => (m2 q a).bind fun b => (m3 q a b).bind fun c => M.ok (p q a b c) with
      | .ok a => _
      | .exc _ => _
      | .err => _
    cases hm : m1 q with
    | err => trivial
    | exc c => rw [hm] at this; exact this.elim
    | ok a =>
      rw [hm] at this
      obtain ⟨g1, s1, k1, e1⟩ := this
      have := h2 q a g1 s1
      show match (m2 q a).bind fun b => (m3 q a b).bind fun c => M.ok (p q a b c) with
        | .ok a => _
        | .exc _ => _
        | .err => _
      cases hm2 : m2 q a with
      | err => trivial
      | exc c => rw [hm2] at this; exact this.elim
      | ok b =>
        rw [hm2] at this
        obtain ⟨g2, s2, k2, e2⟩ := this
        have := h3 q a b g2 s2
        show match (m3 q a b).bind fun c => M.ok (p q a b c) with
          | .ok a => _
          | .exc _ => _
          | .err => _
        cases hm3 : m3 q a b with
        | err => trivial
        | exc c => rw [hm3] at this; exact this.elim
        | ok c =>
          rw [hm3] at this
          obtain ⟨g3, s3, k3, e3⟩ := this
          refine ⟨g3, s3, (k1.trans k2).trans k3, fun k => ?_⟩
          rw [e]
          show fa q.1 g _ = _
          rw [e1]
          show fb q.2.1 g1 _ = _
          rw [e2]
          show fc q.2.2 g2 _ = _
          rw [e3]; rfl
end

/-! ### loops -/
inductive St1 (B φ : Type) where
  | nx (b : B) | br (b : B) | rt (w : φ)
def forM {B φ : Type} (f : B → D → M (St1 B φ)) : List D → B → M (B ⊕ φ)
  | [], b => .ok (.inl b)
  | d :: ds, b => (f b d).bind fun r => match r with
    | .nx b' => forM f ds b'
    | .br b' => .ok (.inl b')
    | .rt w => .ok (.inr w)
def foldM {B : Type} (f : B → D → M B) : List D → B → M B
  | [], b => .ok b
  | d :: ds, b => (f b d).bind fun b' => foldM f ds b'
def orRet {B φ ω : Type} (κ : B → M ω) (e : φ → ω) : B ⊕ φ → M ω
  | .inl b => κ b
  | .inr w => .ok (e w)
def RlL {φ ω B : Type} (Ω : Rl φ ω) (S : B → Env) : Rl φ (St1 B φ) where
  bs := Ω.bs
  bsr := Ω.bsr
  rel := fun r m => match m with
    | .ok (.nx b) => ∃ g, (r = .nx g ∨ r = .ct g) ∧ Sim g (S b)
    | .ok (.br b) => ∃ g, r = .brk g ∧ Sim g (S b)
    | .ok (.rt w) => Ω.bs r w
    | .exc c => ∃ g, r = .exc c g ∧ Ω.px g
    | .err => True
  emb := .rt
  px := Ω.px
  err := fun _ => trivial
  exc := fun c g h => ⟨g, rfl, h⟩
  ret := fun _ _ h => h
def RlN {B : Type} (px : Gam → Prop) (S : B → Env) : Rl Empty B where
  bs := fun _ e => e.elim
  bsr := fun _ e => e.elim
  rel := fun r m => match m with
    | .ok b => ∃ g, (r = .nx g ∨ r = .ct g) ∧ Sim g (S b)
    | .exc c => ∃ g, r = .exc c g ∧ px g
    | .err => True
  emb := Empty.elim
  px := px
  err := fun _ => trivial
  exc := fun c g h => ⟨g, rfl, h⟩
  ret := fun _ e => e.elim
section
variable {φ ω B : Type} {Ω : Rl φ ω} {S : B → Env} {ρ : Env}
theorem rk_nx {b : B} (l : LeE ρ (S b)) : RK (RlL Ω S) ρ .nx (.ok (.nx b)) := fun g s => ⟨g, .inl rfl, l.sim s⟩
theorem rk_nxN {px : Gam → Prop} {b : B} (l : LeE ρ (S b)) : RK (RlN px S) ρ .nx (.ok b) := fun g s => ⟨g, .inl rfl, l.sim s⟩
theorem rt_cont {k : Gam → R} {b : B} (l : LeE ρ (S b)) : RT (RlL Ω S) ρ contT k (.ok (.nx b)) := fun g s => ⟨g, .inr rfl, l.sim s⟩
theorem rt_contN {px : Gam → Prop} {k : Gam → R} {b : B} (l : LeE ρ (S b)) : RT (RlN px S) ρ contT k (.ok b) := fun g s => ⟨g, .inr rfl, l.sim s⟩
theorem rt_brk {k : Gam → R} {b : B} (l : LeE ρ (S b)) : RT (RlL Ω S) ρ brkT k (.ok (.br b)) := fun g s => ⟨g, rfl, l.sim s⟩
end
/-- what is told of a slot behind a turn -/
def rlx : Pk → Pk
  | .em => .un
  | p => p
def noK : Pk → Nat
  | .em => 0
  | .un => 1
  | .an => 1
  | _ => 2
theorem val_no {q : Pk} {s : Sl} (h : noK q = 2) (o : PkOk q s) : s ≠ .no := by
  intro e
  subst e
  cases q with
  | em => cases h
  | un => cases h
  | an => cases h
  | sh d => cases o
  | fo d => have o : Sl.no = foS d := o; unfold foS at o; split at o <;> cases o
  | va d => rcases o with o | o <;> cases o
  | ow d => cases o
  | rf d => cases o
  | br d => rcases o with (o | o) | o <;> cases o
def mskS (a b : Sl) : Sl := match a with | .no => .no | _ => b
theorem mask_eq (g0 g : Gam) : mask g0 g = List.zipWith mskS g0 g := rfl
theorem sim_mask {ρ ρ0 : Env} {g0 g : Gam} (h0 : Sim g0 ρ0) (hs : ρ.map noK = ρ0.map noK) (h : Sim g (ρ.map rlx)) : g.length = g0.length ∧ Sim (mask g0 g) ρ := by
  have l1 : ρ.length = ρ0.length := by simpa using congrArg List.length hs
  have l2 := h0.len
  have l3 : g.length = ρ.length := by have := h.len; simpa using this.symm
  refine ⟨by omega, All2.of_get (by rw [mask_eq, List.length_zipWith]; omega) fun i p s e1 e2 => ?_⟩
  rw [mask_eq, List.getElem?_zipWith] at e2
  have hi : i < ρ.length := (List.getElem?_eq_some_iff.mp e1).1
  obtain ⟨q, eq⟩ : ∃ q, ρ0[i]? = some q := ⟨ρ0[i]'(by omega), List.getElem?_eq_getElem _⟩
  obtain ⟨s0, es0, o0⟩ := h0.get eq
  have e3 : (ρ.map rlx)[i]? = some (rlx p) := by rw [List.getElem?_map, e1]; rfl
  obtain ⟨s', es', o'⟩ := h.get e3
  rw [es0, es'] at e2
  have e2 : mskS s0 s' = s := by simpa using e2
  have hn : noK p = noK q := by
    have := congrArg (fun l => l[i]?) hs
    simp only [List.getElem?_map, e1, eq] at this
    simpa using this
  subst e2
  by_cases hv : noK p = 2
  · have n0 := val_no (hn ▸ hv) o0
    have : mskS s0 s' = s' := by cases s0 <;> first | rfl | exact absurd rfl n0
    rw [this]
    cases p <;> first | exact o' | cases hv
  · cases p with
    | em =>
      have : q = .em := by cases q <;> first | rfl | cases hn
      subst this
      have o0 : s0 = .no := o0
      subst o0; exact rfl
    | un =>
      show ∀ d, mskS s0 s' ≠ .rf d
      intro d
      cases s0 with
      | no => exact fun z => by cases z
      | _ => exact o' d
    | an => trivial
    | _ => exact absurd rfl hv
section
variable {φ ω A B : Type} {Ω : Rl φ ω} {k : Gam → R}
theorem for_run {S : B → Env} {f : D → Gam → R} {g0 : Gam} {b0 : B} {body : B → D → M (St1 B φ)} (h0 : Sim g0 (S b0)) (hs : ∀ b, (S b).map noK = (S b0).map noK)
    (hb : ∀ b d g, Sim g (S b) → (RlL Ω fun b => (S b).map rlx).rel (f d g) (body b d)) : ∀ (ds : List D) (b : B) (g : Gam), Sim g (S b) → match forM body ds b with
    | .ok (.inl b') => ∃ g', forR f g0 ds g = .nx g' ∧ Sim g' (S b')
    | .ok (.inr w) => Ω.bs (forR f g0 ds g) w
    | .exc c => ∃ g', forR f g0 ds g = .exc c g' ∧ Ω.px g'
    | .err => True
  | [], b, g, sg => ⟨g, rfl, sg⟩
  | d :: ds, b, g, sg => by
    have := hb b d g sg
    unfold forM
    cases hm : body b d with
    | err => trivial
    | exc c =>
      rw [hm] at this
      obtain ⟨g', e, hx⟩ := this
      exact ⟨g', by unfold forR; rw [e], hx⟩
    | ok r =>
      rw [hm] at this
      cases r with
      | rt w =>
        obtain ⟨s, g', e⟩ := Ω.bsr _ _ this
        have this : Ω.bs (f d g) w := this
        show Ω.bs _ w
        unfold forR
        rw [e]
        rw [e] at this
        exact this
      | br b' =>
        obtain ⟨g', e, s'⟩ := this
        obtain ⟨m1, m2⟩ := sim_mask h0 (hs b') s'
        exact ⟨_, by unfold forR; rw [e]; simp only [m1, if_true], m2⟩
      | nx b' =>
        obtain ⟨g', e, s'⟩ := this
        obtain ⟨m1, m2⟩ := sim_mask h0 (hs b') s'
        have ih := for_run h0 hs hb ds b' _ m2
        have er : forR f g0 (d :: ds) g = forR f g0 ds (mask g0 g') := by
          rcases e with e | e
          · rw [forR, e]; simp only [m1, if_true]
          · rw [forR, e]; simp only [m1, if_true]
        rw [er]
        exact ih
theorem fold_run {px : Gam → Prop} {S : B → Env} {f : D → Gam → R} {g0 : Gam} {b0 : B} {body : B → D → M B} (h0 : Sim g0 (S b0)) (hs : ∀ b, (S b).map noK = (S b0).map noK)
    (hb : ∀ b d g, Sim g (S b) → (RlN px fun b => (S b).map rlx).rel (f d g) (body b d)) : ∀ (ds : List D) (b : B) (g : Gam), Sim g (S b) → match foldM body ds b with
    | .ok b' => ∃ g', forR f g0 ds g = .nx g' ∧ Sim g' (S b')
    | .exc c => ∃ g', forR f g0 ds g = .exc c g' ∧ px g'
    | .err => True
  | [], b, g, sg => ⟨g, rfl, sg⟩
  | d :: ds, b, g, sg => by
    have := hb b d g sg
    unfold foldM
    cases hm : body b d with
    | err => trivial
    | exc c =>
      rw [hm] at this
      obtain ⟨g', e, hx⟩ := this
      exact ⟨g', by unfold forR; rw [e], hx⟩
    | ok b' =>
      rw [hm] at this
      obtain ⟨g', e, s'⟩ := this
      obtain ⟨m1, m2⟩ := sim_mask h0 (hs b') s'
      have ih := fold_run h0 hs hb ds b' _ m2
      have er : forR f g0 (d :: ds) g = forR f g0 ds (mask g0 g') := by
        rcases e with e | e
        · rw [forR, e]; simp only [m1, if_true]
        · rw [forR, e]; simp only [m1, if_true]
      rw [er]
      exact ih
variable {ρ : Env} {mi : M A} {vi : A → List D} {ρ1 : A → Env} {fi : DnL} {fg : DnG} {s1 : DnT}
theorem rt_for (S : A → B → Env) (b0 : A → B) {body : A → B → D → M (St1 B φ)} {κ : A → B → M ω} (hi : ED ρ fi mi vi ρ1) (hx : PX Ω ρ) (h0 : ∀ a, LeE (ρ1 a) (S a (b0 a))) (hs : ∀ a b, (S a b).map noK = (S a (b0 a)).map noK)
    (hb : ∀ a b d, RT (RlL Ω fun b => (S a b).map rlx) (S a b) (fun g k => fg d g fun g' => s1 g' k) .nx (body a b d)) (hk : ∀ a b, RK Ω (S a b) k (κ a b)) :
    RT Ω ρ (forT fi fg s1) k (mi.bind fun a => (forM (body a) (vi a) (b0 a)).bind (orRet (κ a) Ω.emb)) :=
  rt_ed (K := fun ds g1 => thenR (forR (fun d g => fg d g fun g' => s1 g' .nx) g1 ds g1) k) hi hx fun a g sg => by
    have s0 := (h0 a).sim sg
    have := for_run s0 (hs a) (fun b d g s => hb a b d g s) (vi a) (b0 a) g s0
    show Ω.rel (thenR _ k) _
    cases hm : forM (body a) (vi a) (b0 a) with
    | err => exact Ω.err _
    | exc c =>
      rw [hm] at this
      obtain ⟨g', e, h⟩ := this
      rw [e]
      exact Ω.exc c g' h
    | ok r =>
      rw [hm] at this
      cases r with
      | inl b =>
        obtain ⟨g', e, s'⟩ := this
        rw [e]
        exact hk a b g' s'
      | inr w =>
        have this : Ω.bs _ w := this
        obtain ⟨s, g', e⟩ := Ω.bsr _ _ this
        rw [e]
        rw [e] at this
        exact Ω.ret _ _ this
theorem rt_fold (S : A → B → Env) (b0 : A → B) {body : A → B → D → M B} {κ : A → B → M ω} (hi : ED ρ fi mi vi ρ1) (hx : PX Ω ρ) (h0 : ∀ a, LeE (ρ1 a) (S a (b0 a))) (hs : ∀ a b, (S a b).map noK = (S a (b0 a)).map noK)
    (hb : ∀ a b d, RT (RlN Ω.px fun b => (S a b).map rlx) (S a b) (fun g k => fg d g fun g' => s1 g' k) .nx (body a b d)) (hk : ∀ a b, RK Ω (S a b) k (κ a b)) :
    RT Ω ρ (forT fi fg s1) k (mi.bind fun a => (foldM (body a) (vi a) (b0 a)).bind (κ a)) :=
  rt_ed (K := fun ds g1 => thenR (forR (fun d g => fg d g fun g' => s1 g' .nx) g1 ds g1) k) hi hx fun a g sg => by
    have s0 := (h0 a).sim sg
    have := fold_run s0 (hs a) (fun b d g s => hb a b d g s) (vi a) (b0 a) g s0
    show Ω.rel (thenR _ k) _
    cases hm : foldM (body a) (vi a) (b0 a) with
    | err => exact Ω.err _
    | exc c =>
      rw [hm] at this
      obtain ⟨g', e, h⟩ := this
      rw [e]
      exact Ω.exc c g' h
    | ok b =>
      rw [hm] at this
      obtain ⟨g', e, s'⟩ := this
      rw [e]
      exact hk a b g' s'
/-- a target, then what is behind it -/
theorem rt_gt {vs : List Nat} {fg : Gam → (Gam → R) → R} {m : M A} {κ : A → M ω} {k : Gam → R} (h : GT vs ρ fg m ρ1) (hk : ∀ a, RK Ω (ρ1 a) k (κ a)) : ∀ g, Sim g ρ → Ω.rel (fg g k) (m.bind κ) := fun g sg => by
  have := h g sg
  cases m with
  | err => exact Ω.err _
  | exc c => exact this.elim
  | ok a => obtain ⟨g', s1, _, e⟩ := this; rw [e]; exact hk a g' s1
theorem rt_gtT {vs : List Nat} {d : D} {m : M A} {κ : A → M ω} {k : Gam → R} (h : GT vs ρ (fg d) m ρ1) (hk : ∀ a, RT Ω (ρ1 a) s1 k (κ a)) : RT Ω ρ (fun g k => fg d g fun g' => s1 g' k) k (m.bind κ) :=
  rt_gt (k := fun g' => s1 g' k) h hk
theorem rt_bind {C : Type} {vs : List Nat} {f : DnD} {va : A → D} {mt : A → M C} {ρ2 : A → C → Env} {κ : A → C → M ω} (he : ED ρ f mi va ρ1) (hx : PX Ω ρ) (ht : ∀ a, GT vs (ρ1 a) (fg (va a)) (mt a) (ρ2 a)) (hk : ∀ a c, RK Ω (ρ2 a c) k (κ a c)) :
    RT Ω ρ (bindT f fg) k (mi.bind fun a => (mt a).bind (κ a)) :=
  rt_ed (K := fun d g' => fg d g' k) he hx fun a => rt_gt (ht a) (hk a)
def two : List D → M (D × D)
  | [a, b] => .ok (a, b)
  | _ => .err
theorem rt_par {i j : Nat} {fs : DnL} {κ : A → D × D → M ω} (he : ED ρ fs mi vi ρ1) (hx : PX Ω ρ) (hi : ∀ a, ((ρ1 a)[i]?).map stP = some true) (hj : ∀ a x, (((ρ1 a).set i (.sh x))[j]?).map stP = some true)
    (hk : ∀ a q, RK Ω (((ρ1 a).set i (.sh q.1)).set j (.sh q.2)) k (κ a q)) : RT Ω ρ (parT i j fs) k (mi.bind fun a => (two (vi a)).bind (κ a)) :=
  rt_ed (K := fun ds g' => match ds with
  | [x, y] => stC i (.sh x) g' fun g2 => stC j (.sh y) g2 k
  | _ => .err) he hx fun a g sg => by
    show Ω.rel (match vi a with
      | [x, y] => stC i (.sh x) g fun g2 => stC j (.sh y) g2 k
      | _ => .err) _
    match hv : vi a with
    | [x, y] =>
      obtain ⟨t, e, n⟩ := st_at (hi a) sg
      show Ω.rel (stC i (.sh x) g fun g2 => stC j (.sh y) g2 k) (κ a (x, y))
      rw [stC_go e n (.inl rfl)]
      have sg2 : Sim (g.set i (.sh x)) ((ρ1 a).set i (.sh x)) := All2.set sg (show PkOk (.sh x) (.sh x) from rfl)
      obtain ⟨t2, e2, n2⟩ := st_at (hj a x) sg2
      rw [stC_go e2 n2 (.inl rfl)]
      exact hk a (x, y) _ (All2.set sg2 (show PkOk (.sh y) (.sh y) from rfl))
    | [] => exact Ω.err _
    | [_] => exact Ω.err _
    | _ :: _ :: _ :: _ => exact Ω.err _
end
set_option Elab.async false
set_option linter.all false
set_option maxRecDepth 100000
open PySem L2

section
variable {φ ω A B C : Type} {Ω : Rl φ ω} {k : Gam → R} {ρ : Env} {ma : M A} {mb : A → M B} {ρ1 : A → Env} {ρ2 : A → B → Env}
/-! ### what is gone through -/
def itM (d : D) : M (List D) := liftO (itemsD d)
theorem ei_seq {f : DnD} {va : A → D} {p : A → List D → C} {v : C → List D} {ρ' : C → Env} (ha : ED ρ f ma va ρ1) (e : ∀ a d, v (p a d) = d ∧ ρ' (p a d) = ρ1 a) :
    ED ρ (seqI f) (ma.bind fun a => (itM (va a)).bind fun l => .ok (p a l)) v ρ' :=
  ED.seq (fb := fun d g' k => match itemsD d with
  | some ds => k ds g'
  | none => .err) ha fun a => ed_liftO (F := id) (fun g k x h => by rw [h]; rfl) fun d => e a d
def rng1 : D → M (List D)
  | .int n => if rngOk 0 n = true then .ok (rngD 0 n) else .err
  | _ => .err
def rng2 : D → D → M (List D)
  | .int a, .int b => if rngOk a b = true then .ok (rngD a b) else .err
  | _, _ => .err
theorem ei_rng1 {f : DnD} {va : A → D} {p : A → List D → C} {v : C → List D} {ρ' : C → Env} (ha : ED ρ f ma va ρ1) (e : ∀ a d, v (p a d) = d ∧ ρ' (p a d) = ρ1 a) :
    ED ρ (rng1I f) (ma.bind fun a => (rng1 (va a)).bind fun l => .ok (p a l)) v ρ' :=
  ED.seq (fb := fun d g' k => match d with
  | .int n => if rngOk 0 n = true then k (rngD 0 n) g' else .err
  | _ => .err) ha fun a => by
    cases h : va a with
    | int n =>
      by_cases hr : rngOk 0 n = true
      · have : rng1 (.int n) = .ok (rngD 0 n) := if_pos hr
        rw [this]
        exact ed_const (x := rngD 0 n) (fun g k => if_pos hr) (e a _)
      · have : rng1 (.int n) = .err := if_neg hr
        rw [this]
        exact fun g s => trivial
    | _ => exact fun g s => trivial
theorem ei_rng2 {fa fb : DnD} {va : A → D} {vb : A → B → D} {p : A → B → List D → C} {v : C → List D} {ρ' : C → Env} (ha : ED ρ fa ma va ρ1) (hb : ∀ a, ED (ρ1 a) fb (mb a) (vb a) (ρ2 a)) (e : ∀ a b d, v (p a b d) = d ∧ ρ' (p a b d) = ρ2 a b) :
    ED ρ (rng2I fa fb) (ma.bind fun a => (mb a).bind fun b => (rng2 (va a) (vb a b)).bind fun l => .ok (p a b l)) v ρ' :=
  ED.seq (fb := fun d g1 k => fb g1 fun d' g2 => match d, d' with
  | .int a, .int b => if rngOk a b = true then k (rngD a b) g2 else .err
  | _, _ => .err) ha fun a => ED.seq (fb := fun d' g2 k => match va a, d' with
  | .int a, .int b => if rngOk a b = true then k (rngD a b) g2 else .err
  | _, _ => .err) (hb a) fun b => by
    cases h : va a with
    | int n =>
      cases h2 : vb a b with
      | int m =>
        by_cases hr : rngOk n m = true
        · have : rng2 (.int n) (.int m) = .ok (rngD n m) := if_pos hr
          rw [this]
          have e' := e a b
          exact ed_const (x := rngD n m) (fun g k => if_pos hr) (e' _)
        · have : rng2 (.int n) (.int m) = .err := if_neg hr
          rw [this]
          exact fun g s => trivial
      | _ => exact fun g s => trivial
    | _ => exact fun g s => trivial
/-! ### items of own lists -/
def setM : D → D → D → M (List D)
  | .list ds, .int n, d => match ixN ds.length n with
    | some m => .ok (ds.set m d)
    | none => .err
  | _, _, _ => .err
theorem rt_sub {i : Nat} {fe fi : DnD} {va : A → D} {vb : A → B → D} {w : A → D} {κ : A → B → List D → M ω} (he : ED ρ fe ma va ρ1) (hx : PX Ω ρ) (h0 : ∀ a, ((ρ1 a)[i]?).bind muP = some (w a)) (hi : ∀ a, ED (ρ1 a) fi (mb a) (vb a) (ρ2 a)) (hx1 : ∀ a, PX Ω (ρ1 a)) (h1 : ∀ a b, ((ρ2 a b)[i]?).bind muP = some (w a))
    (hk : ∀ a b l, RK Ω ((ρ2 a b).set i (toP ((ρ2 a b)[i]?) (.list l))) k (κ a b l)) :
    RT Ω ρ (subT i fe fi) k (ma.bind fun a => (isLst (w a)).bind fun _ => (mb a).bind fun b => (setM (w a) (vb a b) (va a)).bind (κ a b)) :=
  rt_ed (K := fun d g' => putC i fi d g' k) he hx fun a g sg => by
    cases hw : w a with
    | list es =>
      have h0 := h0 a
      cases hp : (ρ1 a)[i]? with
      | none => rw [hp] at h0; cases h0
      | some q0 =>
      rw [hp] at h0
      obtain ⟨s0, e0, o0⟩ := sg.get hp
      have ho : lstOf g[i]? = some es := by
        rw [e0]; rcases muP_lst h0 hw o0 with rfl | rfl <;> rfl
      show Ω.rel (match lstOf g[i]? with
        | some _ => fi g fun j g' => match lstOf g'[i]?, j with
          | some ds, .int n => match ixN ds.length n with
            | some m => k (stTo g' i (.list (ds.set m (va a))))
            | none => .err
          | _, _ => .err
        | none => .err) _
      rw [ho]
      refine rt_ed (K := fun j g' => match lstOf g'[i]?, j with
          | some ds, .int n => match ixN ds.length n with
            | some m => k (stTo g' i (.list (ds.set m (va a))))
            | none => .err
          | _, _ => .err) (hi a) (hx1 a) (fun b g1 s1 => ?_) g sg
      have h1 := h1 a b
      cases hp1 : (ρ2 a b)[i]? with
      | none => rw [hp1] at h1; cases h1
      | some q1 =>
      rw [hp1] at h1
      obtain ⟨t1, f1, o1⟩ := s1.get hp1
      have ho1 : lstOf g1[i]? = some es := by
        rw [f1]; rcases muP_lst h1 hw o1 with rfl | rfl <;> rfl
      cases hj : vb a b with
      | int n =>
        show Ω.rel (match lstOf g1[i]?, PyData.int n with
          | some ds, .int n => match ixN ds.length n with
            | some m => k (stTo g1 i (.list (ds.set m (va a))))
            | none => .err
          | _, _ => .err) _
        rw [ho1]
        show Ω.rel (match ixN es.length n with
            | some m => k (stTo g1 i (.list (es.set m (va a))))
            | none => .err) (M.bind (match ixN es.length n with
              | some m => .ok (es.set m (va a))
              | none => .err) _)
        cases ixN es.length n with
        | none => exact Ω.err _
        | some m =>
          have hst : stTo g1 i (.list (es.set m (va a))) = g1.set i (t1.to (.list (es.set m (va a)))) := by unfold stTo; rw [f1]
          refine hk a b (es.set m (va a)) _ ?_
          rw [hst, hp1]
          exact All2.set s1 (toP_ok h1 hw o1)
      | _ => exact Ω.err _
    | _ => exact Ω.err _
def augI (f : Int → Int → Int) : D → D → M Int
  | .int x, .int y => .ok (f x y)
  | _, _ => .err
def isInt : D → M Unit
  | .int _ => .ok ()
  | _ => .err
theorem rt_augN {i : Nat} {fe : DnD} {f : Int → Int → Int} {w : D} {va : A → D} {κ : A → Int → M ω} (h0 : (ρ[i]?).bind vaP = some w) (hs : ρ[i]? = some (.sh w)) (he : ED ρ fe ma va ρ1) (hx : PX Ω ρ) (hst : ∀ a, ((ρ1 a)[i]?).map stP = some true)
    (hk : ∀ a n, RK Ω ((ρ1 a).set i (.sh (.int n))) k (κ a n)) : RT Ω ρ (augN i fe f) k ((isInt w).bind fun _ => ma.bind fun a => (augI f w (va a)).bind (κ a)) := fun g sg => by
  obtain ⟨t, e, o⟩ := sg.get hs
  have o : t = .sh w := o
  cases hw : w with
  | int x =>
    show Ω.rel (match g[i]? with
      | some (.sh (.int x)) => fe g fun y g' => match y with
        | .int y => stC i (.sh (.int (f x y))) g' k
        | _ => .err
      | _ => .err) _
    rw [e, o, hw]
    refine rt_ed (K := fun y g' => match y with
        | .int y => stC i (.sh (.int (f x y))) g' k
        | _ => .err) he hx (fun a g1 s1 => ?_) g sg
    cases hv : va a with
    | int y =>
      obtain ⟨t2, e2, n⟩ := st_at (hst a) s1
      show Ω.rel (stC i (.sh (.int (f x y))) g1 k) (κ a (f x y))
      rw [stC_go e2 n (.inl rfl)]
      exact hk a _ _ (All2.set s1 (show PkOk (.sh _) (.sh _) from rfl))
    | _ => exact Ω.err _
  | _ => exact Ω.err _
def ixM : D → D → M D
  | .list ds, .int n => match ixN ds.length n with
    | some m => liftO ds[m]?
    | none => .err
  | _, _ => .err
theorem rt_aug {i : Nat} {fi fe : DnD} {f : Int → Int → Int} {w0 : D} {va : A → D} {vb : A → B → D} {κ : A → B → List D → M ω} (h0 : (ρ[i]?).bind muP = some w0) (hi : ED ρ fi ma va ρ1) (hx : PX Ω ρ) (h1 : ∀ a, ((ρ1 a)[i]?).bind muP = some w0) (he : ∀ a, ED (ρ1 a) fe (mb a) (vb a) (ρ2 a)) (hx1 : ∀ a, PX Ω (ρ1 a)) (h2 : ∀ a b, ((ρ2 a b)[i]?).bind muP = some w0)
    (hk : ∀ a b l, RK Ω ((ρ2 a b).set i (toP ((ρ2 a b)[i]?) (.list l))) k (κ a b l)) :
    RT Ω ρ (augT i fi fe f) k ((isLst w0).bind fun _ => ma.bind fun a => (ixM w0 (va a)).bind fun x => (isInt x).bind fun _ => (mb a).bind fun b => (augI f x (vb a b)).bind fun n => (setM w0 (va a) (.int n)).bind (κ a b)) := fun g sg => by
  cases hw : w0 with
  | list es =>
    cases hp : ρ[i]? with
    | none => rw [hp] at h0; cases h0
    | some q0 =>
    rw [hp] at h0
    obtain ⟨s0, e0, o0⟩ := sg.get hp
    have ho : lstOf g[i]? = some es := by
      rw [e0]; rcases muP_lst h0 hw o0 with rfl | rfl <;> rfl
    unfold augT
    rw [ho]
    refine rt_ed (K := fun j g1 => match lstOf g1[i]?, j with
    | some ds, .int n => match ixN ds.length n with
      | some m => match ds[m]? with
        | some (.int x) => fe g1 fun y g2 => match lstOf g2[i]?, y with
          | some ds2, .int y => match ixN ds2.length n with
            | some m2 => k (stTo g2 i (.list (ds2.set m2 (.int (f x y)))))
            | none => .err
          | _, _ => .err
        | _ => .err
      | none => .err
    | _, _ => .err) hi hx (fun a g1 s1 => ?_) g sg
    have h1 := h1 a
    cases hp1 : (ρ1 a)[i]? with
    | none => rw [hp1] at h1; cases h1
    | some q1 =>
    rw [hp1] at h1
    obtain ⟨t1, f1, o1⟩ := s1.get hp1
    have ho1 : lstOf g1[i]? = some es := by
      rw [f1]; rcases muP_lst h1 hw o1 with rfl | rfl <;> rfl
    cases hj : va a with
    | int n =>
      cases hm : ixN es.length n with
      | none =>
        have : ixM (.list es) (.int n) = .err := by
          show (match ixN es.length n with
              | some m => liftO es[m]?
              | none => .err) = _
          rw [hm]
        rw [this]; exact Ω.err _
      | some m =>
        cases hx' : es[m]? with
        | none =>
          have : ixM (.list es) (.int n) = .err := by
            show (match ixN es.length n with
              | some m => liftO es[m]?
              | none => .err) = _
            rw [hm]; show liftO es[m]? = _; rw [hx']; rfl
          rw [this]; exact Ω.err _
        | some x =>
          have : ixM (.list es) (.int n) = .ok x := by
            show (match ixN es.length n with
              | some m => liftO es[m]?
              | none => .err) = _
            rw [hm]; show liftO es[m]? = _; rw [hx']; rfl
          rw [this]
          cases x with
          | int x =>
            have goal : (match lstOf g1[i]?, PyData.int n with
              | some ds, .int n => match ixN ds.length n with
                | some m => match ds[m]? with
                  | some (.int x) => fe g1 fun y g2 => match lstOf g2[i]?, y with
                    | some ds2, .int y => match ixN ds2.length n with
                      | some m2 => k (stTo g2 i (.list (ds2.set m2 (.int (f x y)))))
                      | none => .err
                    | _, _ => .err
                  | _ => .err
                | none => .err
              | _, _ => .err) = fe g1 fun y g2 => match lstOf g2[i]?, y with
                    | some ds2, .int y => match ixN ds2.length n with
                      | some m2 => k (stTo g2 i (.list (ds2.set m2 (.int (f x y)))))
                      | none => .err
                    | _, _ => .err := by
              rw [ho1]
              simp only [hm, hx']
            show Ω.rel (match lstOf g1[i]?, PyData.int n with
              | some ds, .int n => match ixN ds.length n with
                | some m => match ds[m]? with
                  | some (.int x) => fe g1 fun y g2 => match lstOf g2[i]?, y with
                    | some ds2, .int y => match ixN ds2.length n with
                      | some m2 => k (stTo g2 i (.list (ds2.set m2 (.int (f x y)))))
                      | none => .err
                    | _, _ => .err
                  | _ => .err
                | none => .err
              | _, _ => .err) _
            rw [goal]
            refine rt_ed (K := fun y g2 => match lstOf g2[i]?, y with
                    | some ds2, .int y => match ixN ds2.length n with
                      | some m2 => k (stTo g2 i (.list (ds2.set m2 (.int (f x y)))))
                      | none => .err
                    | _, _ => .err) (he a) (hx1 a) (fun b g2 s2 => ?_) g1 s1
            have h2 := h2 a b
            cases hp2 : (ρ2 a b)[i]? with
            | none => rw [hp2] at h2; cases h2
            | some q2 =>
            rw [hp2] at h2
            obtain ⟨t2, f2, o2⟩ := s2.get hp2
            have ho2 : lstOf g2[i]? = some es := by
              rw [f2]; rcases muP_lst h2 hw o2 with rfl | rfl <;> rfl
            cases hy : vb a b with
            | int y =>
              have g3 : (match lstOf g2[i]?, PyData.int y with
                    | some ds2, .int y => match ixN ds2.length n with
                      | some m2 => k (stTo g2 i (.list (ds2.set m2 (.int (f x y)))))
                      | none => .err
                    | _, _ => .err) = k (stTo g2 i (.list (es.set m (.int (f x y))))) := by
                rw [ho2]; simp only [hm]
              show Ω.rel (match lstOf g2[i]?, PyData.int y with
                    | some ds2, .int y => match ixN ds2.length n with
                      | some m2 => k (stTo g2 i (.list (ds2.set m2 (.int (f x y)))))
                      | none => .err
                    | _, _ => .err) ((setM (.list es) (.int n) (.int (f x y))).bind (κ a b))
              rw [g3]
              have : setM (.list es) (.int n) (.int (f x y)) = .ok (es.set m (.int (f x y))) := by
                show (match ixN es.length n with
                  | some m => M.ok (es.set m (.int (f x y)))
                  | none => .err) = _
                rw [hm]
              rw [this]
              have hst : stTo g2 i (.list (es.set m (.int (f x y)))) = g2.set i (t2.to (.list (es.set m (.int (f x y))))) := by unfold stTo; rw [f2]
              refine hk a b _ _ ?_
              rw [hst, hp2]
              exact All2.set s2 (toP_ok h2 hw o2)
            | _ => exact Ω.err _
          | _ => exact Ω.err _
    | _ => exact Ω.err _
  | _ => exact Ω.err _
/-! ### while -/
def whileM {B φ : Type} (t : B → M Bool) (f : B → M (St1 B φ)) : Nat → B → M (B ⊕ φ)
  | 0, _ => .err
  | n + 1, b => (t b).bind fun c => if c = true then (f b).bind fun r => match r with
      | .nx b' => whileM t f n b'
      | .br b' => .ok (.inl b')
      | .rt w => .ok (.inr w)
    else .ok (.inl b)
theorem while_run {S : B → Env} {ft : DnB} {f : Gam → R} {g0 : Gam} {b0 : B} {t : B → M Bool} {St : B → Env} {body : B → M (St1 B φ)} (h0 : Sim g0 (S b0)) (hs : ∀ b, (S b).map noK = (S b0).map noK)
    (ht : ∀ b, ED (S b) ft (t b) id fun _ => St b) (hx : ∀ b, PX Ω (S b)) (hl : ∀ b, LeE (St b) ((S b).map rlx)) (hb : ∀ b g, Sim g (St b) → (RlL Ω fun b => (S b).map rlx).rel (f g) (body b)) : ∀ (n : Nat) (b : B) (g : Gam), Sim g (S b) → match whileM t body n b with
    | .ok (.inl b') => ∃ g', whileR ft f g0 n g = .nx g' ∧ Sim g' ((S b').map rlx)
    | .ok (.inr w) => Ω.bs (whileR ft f g0 n g) w
    | .exc c => ∃ g', whileR ft f g0 n g = .exc c g' ∧ Ω.px g'
    | .err => True
  | 0, b, g, sg => trivial
  | n + 1, b, g, sg => by
    have tt := ht b g sg
    unfold whileM
    cases htb : t b with
    | err => trivial
    | exc c =>
      rw [htb] at tt
      obtain ⟨g', k1, e⟩ := tt
      exact ⟨g', by unfold whileR; rw [e], hx b g g' sg k1⟩
    | ok c =>
      rw [htb] at tt
      obtain ⟨g1, s1, k1, e1⟩ := tt
      cases c with
      | false =>
        exact ⟨g1, by unfold whileR; rw [e1]; rfl, (hl b).sim s1⟩
      | true =>
        have := hb b g1 s1
        have er : whileR ft f g0 (n + 1) g = (match f g1 with
          | .nx g2 => if g2.length = g0.length then whileR ft f g0 n (mask g0 g2) else .err
          | .ct g2 => if g2.length = g0.length then whileR ft f g0 n (mask g0 g2) else .err
          | .brk g2 => .nx g2
          | .va _ _ => .err
          | r => r) := by rw [whileR, e1]; rfl
        rw [er]
        rw [M.ok_bind, if_pos rfl]
        cases hm : body b with
        | err => trivial
        | exc c =>
          rw [hm] at this
          obtain ⟨g', e, hx⟩ := this
          exact ⟨g', by rw [e], hx⟩
        | ok r =>
          rw [hm] at this
          rw [M.ok_bind]
          cases r with
          | rt w =>
            obtain ⟨s, g', e⟩ := Ω.bsr _ _ this
            have this : Ω.bs (f g1) w := this
            show Ω.bs _ w
            rw [e]
            rw [e] at this
            exact this
          | br b' =>
            obtain ⟨g', e, s'⟩ := this
            exact ⟨_, by rw [e], s'⟩
          | nx b' =>
            obtain ⟨g', e, s'⟩ := this
            obtain ⟨m1, m2⟩ := sim_mask h0 (hs b') s'
            have ih := while_run h0 hs ht hx hl hb n b' _ m2
            have er : (match f g1 with
              | .nx g2 => if g2.length = g0.length then whileR ft f g0 n (mask g0 g2) else .err
              | .ct g2 => if g2.length = g0.length then whileR ft f g0 n (mask g0 g2) else .err
              | .brk g2 => .nx g2
              | .va _ _ => .err
              | r => r) = whileR ft f g0 n (mask g0 g') := by
              rcases e with e | e <;> rw [e] <;> simp only [m1, if_true]
            rw [er]
            exact ih
theorem rt_while (S : B → Env) (b0 : B) {n : Nat} {ft : DnB} {s1 : DnT} {t : B → M Bool} {St : B → Env} {body : B → M (St1 B φ)} {κ : B → M ω} (h0 : LeE ρ (S b0)) (hs : ∀ b, (S b).map noK = (S b0).map noK)
    (ht : ∀ b, ED (S b) ft (t b) id fun _ => St b) (hx : ∀ b, PX Ω (S b)) (hl : ∀ b, LeE (St b) ((S b).map rlx)) (hb : ∀ b, RT (RlL Ω fun b => (S b).map rlx) (St b) s1 .nx (body b)) (hk : ∀ b, RK Ω ((S b).map rlx) k (κ b)) :
    RT Ω ρ (whileT n ft s1) k ((whileM t body n b0).bind (orRet κ Ω.emb)) := fun g sg => by
  have s0 := h0.sim sg
  have := while_run (f := fun g' => s1 g' .nx) s0 hs ht hx hl (fun b g s => hb b g s) n b0 g s0
  show Ω.rel (thenR (whileR ft (fun g' => s1 g' .nx) g n g) k) _
  cases hm : whileM t body n b0 with
  | err => exact Ω.err _
  | exc c =>
    rw [hm] at this
    obtain ⟨g', e, h⟩ := this
    rw [e]
    exact Ω.exc c g' h
  | ok r =>
    rw [hm] at this
    cases r with
    | inl b =>
      obtain ⟨g', e, s'⟩ := this
      rw [e]
      exact hk b g' s'
    | inr w =>
      have this : Ω.bs _ w := this
      obtain ⟨s, g', e⟩ := Ω.bsr _ _ this
      rw [e]
      rw [e] at this
      exact Ω.ret _ _ this
end
set_option Elab.async false
set_option linter.all false
set_option maxRecDepth 100000
open PySem L2

/-! ### comprehensions -/
def toRfP : Pk → Pk
  | .un => .an
  | .fo d => .br d
  | .va d => .br d
  | .ow d => .rf d
  | p => p
def wipeP (ρ : Env) : List Nat → Env
  | [] => ρ
  | v :: vs => (wipeP ρ vs).set v .em
theorem sim_wipe {g : Gam} {ρ : Env} (h : Sim g ρ) : ∀ vs : List Nat, Sim (wipeG g vs) (wipeP ρ vs)
  | [] => h
  | v :: vs => All2.set (sim_wipe h vs) (show PkOk .em .no from rfl)
def rfS : Sl → Sl
  | .ow d => .rf d
  | s => s
theorem toRf_eq (g : Gam) : toRf g = g.map rfS := by
  unfold toRf
  rfl
theorem pk_rf {p : Pk} {s : Sl} (o : PkOk p s) : PkOk (toRfP p) (rfS s) := by
  cases p with
  | em => have o : s = .no := o; subst o; exact rfl
  | un => trivial
  | an => trivial
  | sh d => have o : s = .sh d := o; subst o; exact rfl
  | fo d => rcases kdFo _ _ o with rfl | rfl; exact .inl (.inl rfl); exact .inr rfl
  | va d => rcases o with rfl | rfl; exact .inl (.inl rfl); exact .inr rfl
  | ow d => have o : s = .ow d := o; subst o; exact rfl
  | rf d => have o : s = .rf d := o; subst o; exact rfl
  | br d => rcases o with (rfl | rfl) | rfl; exact .inl (.inl rfl); exact .inr rfl; exact .inr rfl
theorem sim_rf {g : Gam} {ρ : Env} (h : Sim g ρ) : Sim (toRf g) (ρ.map toRfP) := by
  rw [toRf_eq]
  refine All2.of_get (by rw [List.length_map, List.length_map]; exact h.len) fun i p s e1 e2 => ?_
  rw [List.getElem?_map] at e1 e2
  cases hs : g[i]? with
  | none => rw [hs] at e2; cases e2
  | some t =>
    rw [hs] at e2
    obtain ⟨q, eq, o⟩ := All2.get' h hs
    rw [eq] at e1
    have e1 : toRfP q = p := by simpa using e1
    have e2 : rfS t = s := by simpa using e2
    subst e1; subst e2
    exact pk_rf o
/-- back: a slot's turn -/
theorem back_ok {p : Pk} {s u : Sl} {q : Pk} (o : PkOk q s) (hq : ∀ t, PkOk q t → PkOk p t ∨ True) (k : KeS (rfS s) u) : True := trivial
theorem pk_back {p q : Pk} {s u : Sl} (o : PkOk q s) (k : KeS (rfS s) u) (ou : PkOk (toRfP p) u) (hpq : p = q ∨ (∃ d e, q = .rf d ∧ p = .rf e) ∨ ∃ d e, q = .ow d ∧ p = .ow e) : PkOk p (backS s u) := by
  rcases hpq with rfl | ⟨d, e, rfl, rfl⟩ | ⟨d, e, rfl, rfl⟩
  · cases s with
    | no => have k : u = .no := k; subst k; exact o
    | sh d => have k : u = .sh d := k; subst k; exact o
    | ow d =>
      obtain ⟨d', rfl⟩ := k
      show PkOk p (.ow d')
      cases p with
      | em => cases o
      | un => exact fun x z => by cases z
      | an => trivial
      | sh x => cases o
      | fo x =>
        rcases ou with (ou | ou) | ou
        · cases ou
        · cases ou
        · cases ou
          have o : Sl.ow d = foS d' := o
          show Sl.ow d' = foS d'
          unfold foS at o ⊢
          split at o
          · rename_i h; rw [if_pos h]
          · cases o
      | va x =>
        rcases ou with (ou | ou) | ou
        · cases ou
        · cases ou
        · cases ou; exact .inr rfl
      | ow x => have ou : Sl.rf d' = .rf x := ou; cases ou; exact rfl
      | rf x => cases o
      | br x =>
        rcases ou with (ou | ou) | ou
        · cases ou
        · cases ou
        · cases ou; exact .inl (.inr rfl)
    | rf d =>
      obtain ⟨d', rfl⟩ := k
      show PkOk p (.rf d')
      cases p with
      | em => cases o
      | un => exact absurd rfl (o d)
      | an => trivial
      | sh x => cases o
      | fo x => rcases kdFo _ _ o with o | o <;> cases o
      | va x => rcases o with o | o <;> cases o
      | ow x => cases o
      | rf x => exact ou
      | br x => exact ou
  · have o : s = .rf d := o
    subst o
    obtain ⟨d', rfl⟩ := k
    exact ou
  · have o : s = .ow d := o
    subst o
    obtain ⟨d', rfl⟩ := k
    have ou : Sl.rf d' = .rf e := ou
    cases ou
    exact rfl
theorem back_gt (g g' : Gam) (i : Nat) {s u : Sl} (h : g[i]? = some s) (h' : g'[i]? = some u) : (back g g')[i]? = some (backS s u) := by
  unfold back
  rw [List.getElem?_zipWith, h, h']
theorem wipeP_get (ρ : Env) (i : Nat) : ∀ vs : List Nat, (wipeP ρ vs)[i]? = if i ∈ vs then (ρ[i]?).map fun _ => .em else ρ[i]?
  | [] => by simp [wipeP]
  | v :: vs => by
    unfold wipeP
    by_cases h : v = i
    · subst h
      rw [if_pos List.mem_cons_self]
      cases hr : ρ[v]? with
      | none =>
        rw [List.getElem?_eq_none]
        · rfl
        · have := List.getElem?_eq_none_iff.mp hr
          have l : ∀ vs, (wipeP ρ vs).length = ρ.length := fun vs => by induction vs with
            | nil => rfl
            | cons v vs ih => unfold wipeP; rw [List.length_set, ih]
          rw [List.length_set, l]; exact this
      | some p =>
        have hv : v < (wipeP ρ vs).length := by
          have l : ∀ vs, (wipeP ρ vs).length = ρ.length := fun vs => by induction vs with
            | nil => rfl
            | cons v vs ih => unfold wipeP; rw [List.length_set, ih]
          rw [l]; exact (List.getElem?_eq_some_iff.mp hr).1
        rw [List.getElem?_set_self hv]; rfl
    · rw [List.getElem?_set_ne h, wipeP_get ρ i vs]
      by_cases h2 : i ∈ vs
      · rw [if_pos h2, if_pos (List.mem_cons_of_mem _ h2)]
      · rw [if_neg h2, if_neg (fun z => (List.mem_cons.mp z).elim (fun e => h e.symm) h2)]
/-- two lists of slots that may follow one another: the same but for the states -/
def Nxt (ρ ρ' : Env) : Prop := All2 (fun p q => q = p ∨ (∃ d e, p = .rf d ∧ q = .rf e) ∨ ∃ d e, p = .ow d ∧ q = .ow e) ρ ρ'
theorem Nxt.refl : ∀ ρ : Env, Nxt ρ ρ
  | [] => .nil
  | p :: ρ => .cons (.inl rfl) (Nxt.refl ρ)

theorem sim_back {vs : List Nat} {ρ ρ' : Env} {g g' : Gam} (h : Sim g ρ) (hv : wipeP ρ vs = ρ) (n : Nxt ρ ρ') (k : KeX vs (toRf g) g') (h' : Sim (wipeG g' vs) (ρ'.map toRfP)) (hv' : wipeP ρ' vs = ρ') :
    g'.length = g.length ∧ Sim (wipeG (back g g') vs) ρ' := by
  have l1 : g'.length = g.length := by rw [k.1, toRf_eq, List.length_map]
  refine ⟨l1, All2.of_get ?_ fun i p s e1 e2 => ?_⟩
  · have := n.len; have := h.len
    rw [wipeG_length]
    unfold back
    rw [List.length_zipWith]
    omega
  · rw [wipeG_get] at e2
    by_cases hi : i ∈ vs
    · rw [if_pos hi] at e2
      have e3 : (wipeP ρ' vs)[i]? = some p := by rw [hv']; exact e1
      rw [wipeP_get, if_pos hi, e1] at e3
      have e3 : Pk.em = p := by simpa using e3
      subst e3
      have : i < (back g g').length := by
        unfold back
        rw [List.length_zipWith]
        have := (List.getElem?_eq_some_iff.mp e1).1
        have := n.len; have := h.len
        omega
      rw [if_pos this] at e2
      cases e2
      exact rfl
    · rw [if_neg hi] at e2
      obtain ⟨q, e3, hpq⟩ := All2.get' n e1
      obtain ⟨t, e4, o⟩ := h.get e3
      have e5 : (toRf g)[i]? = some (rfS t) := by rw [toRf_eq, List.getElem?_map, e4]; rfl
      obtain ⟨u, e6, ku⟩ := k.2 i _ hi e5
      rw [back_gt g g' i e4 e6] at e2
      cases e2
      have e7 : (wipeG g' vs)[i]? = some u := by rw [wipeG_get, if_neg hi]; exact e6
      have e8 : (ρ'.map toRfP)[i]? = some (toRfP p) := by rw [List.getElem?_map, e1]; rfl
      obtain ⟨u', e9, ou⟩ := h'.get e8
      rw [e7] at e9; cases e9
      exact pk_back o ku ou hpq
def lcS {B : Type} (f : B → D → M (Option D × B)) : List D → B → M (List D × B)
  | [], b => .ok ([], b)
  | d :: ds, b => (f b d).bind fun r => (lcS f ds r.2).bind fun q => .ok (r.1.toList ++ q.1, q.2)
def lcE (f : D → M D) : List D → M (List D)
  | [] => .ok []
  | d :: ds => (f d).bind fun x => (lcE f ds).bind fun xs => .ok (x :: xs)
def lcF (f : D → M (Option D)) : List D → M (List D)
  | [] => .ok []
  | d :: ds => (f d).bind fun x => (lcF f ds).bind fun xs => .ok (x.toList ++ xs)
theorem lcE_S (f : D → M D) : ∀ ds, lcS (B := Unit) (fun _ d => (f d).bind fun x => .ok (some x, ())) ds () = (lcE f ds).bind fun xs => .ok (xs, ())
  | [] => rfl
  | d :: ds => by
    unfold lcS lcE
    simp only [M.bind_assoc, M.ok_bind, lcE_S f ds]
    rfl
theorem lcF_S (f : D → M (Option D)) : ∀ ds, lcS (B := Unit) (fun _ d => (f d).bind fun x => .ok (x, ())) ds () = (lcF f ds).bind fun xs => .ok (xs, ())
  | [] => rfl
  | d :: ds => by
    unfold lcS lcF
    simp only [M.bind_assoc, M.ok_bind, lcF_S f ds]
/-- one turn -/
def CT {B : Type} (vs : List Nat) (ρ : Env) (f : Gam → R) (m : M (Option D × B)) (ρ' : B → Env) : Prop := ∀ g, Sim g ρ → match m with
  | .ok r => ∃ g', KeX vs g g' ∧ Sim (wipeG g' vs) (ρ' r.2) ∧ f g = (match r.1 with
    | some y => .va (.sh y) g'
    | none => .nx g')
  | _ => True
theorem comp_run {B : Type} {vs : List Nat} {S : B → Env} {f : D → Gam → R} {body : B → D → M (Option D × B)} (hw : ∀ b, wipeP (S b) vs = S b) (hn : ∀ b b', Nxt (S b) (S b'))
    (hb : ∀ b d, CT vs ((S b).map toRfP) (f d) (body b d) fun b' => (S b').map toRfP) : ∀ (ds : List D) (b : B) (g : Gam) (acc : List D), Sim g (S b) → match lcS body ds b with
    | .ok r => ∃ g', compR f vs ds g acc = some (acc ++ r.1, g') ∧ Sim g' (S r.2)
    | _ => True
  | [], b, g, acc, sg => ⟨g, by unfold compR; simp, sg⟩
  | d :: ds, b, g, acc, sg => by
    have := hb b d (toRf g) (sim_rf sg)
    unfold lcS
    cases hm : body b d with
    | err => trivial
    | exc c => trivial
    | ok r =>
      rw [hm] at this
      obtain ⟨g', k1, s1, e1⟩ := this
      obtain ⟨l1, s2⟩ := sim_back sg (hw b) (hn b r.2) k1 s1 (hw r.2)
      rw [M.ok_bind]
      have ih := comp_run hw hn hb ds r.2 (wipeG (back g g') vs) (acc ++ r.1.toList) s2
      cases hm2 : lcS body ds r.2 with
      | err => trivial
      | exc c => trivial
      | ok q =>
        rw [hm2] at ih
        obtain ⟨g2, e2, s3⟩ := ih
        refine ⟨g2, ?_, s3⟩
        unfold compR
        rw [e1]
        cases hr : r.1 with
        | none =>
          rw [hr] at e2
          show (if g'.length = g.length then compR f vs ds (wipeG (back g g') vs) acc else none) = _
          rw [if_pos l1]
          simpa using e2
        | some y =>
          rw [hr] at e2
          show (if g'.length = g.length then compR f vs ds (wipeG (back g g') vs) (acc ++ [y]) else none) = _
          rw [if_pos l1]
          simpa using e2
def noOw : Pk → Bool
  | .em => true
  | .sh _ => true
  | _ => false
theorem restW_get (vs : List Nat) (g1 g2 : Gam) (i : Nat) : (restW vs g1 g2)[i]? = if i < g2.length then some (if i ∈ vs then (g1[i]?).getD .no else (g2[i]?).getD .no) else none := by
  unfold restW
  rw [List.getElem?_map]
  by_cases h : i < g2.length
  · rw [List.getElem?_range h, if_pos h]; rfl
  · rw [List.getElem?_eq_none (by simpa using h), if_neg h]; rfl
theorem okW_of {vs : List Nat} {g : Gam} {ρ : Env} (sg : Sim g ρ) (h : (vs.all fun i => (ρ[i]?).any noOw) = true) : okW vs g = true := by
  unfold okW
  rw [List.all_eq_true] at h ⊢
  intro i hi
  have := h i hi
  cases hp : ρ[i]? with
  | none => rw [hp] at this; cases this
  | some p =>
    rw [hp] at this
    obtain ⟨s, e, o⟩ := sg.get hp
    rw [e]
    cases p with
    | em => have o : s = .no := o; subst o; rfl
    | sh d => have o : s = .sh d := o; subst o; rfl
    | _ => cases this
/-- what a comprehension that ends leaves -/
theorem rest_ok {vs : List Nat} {ρ ρ' ρe : Env} {g g2 : Gam} (sg : Sim g ρ) (s2 : Sim g2 ρe) (he : wipeP ρ' vs = ρe) (hv : ∀ i ∈ vs, ρ'[i]? = ρ[i]?) : Sim (restW vs g g2) ρ' := by
  have wl : ∀ vs, (wipeP ρ' vs).length = ρ'.length := fun vs => by induction vs with
    | nil => rfl
    | cons v vs ih => unfold wipeP; rw [List.length_set, ih]
  have l2 := s2.len
  subst he
  rw [wl] at l2
  refine All2.of_get (by simp [restW, l2]) fun i p s e1 e2 => ?_
  rw [restW_get] at e2
  have hi : i < ρ'.length := (List.getElem?_eq_some_iff.mp e1).1
  rw [if_pos (by omega)] at e2
  by_cases h : i ∈ vs
  · rw [if_pos h] at e2
    have e3 : ρ[i]? = some p := by rw [← hv i h]; exact e1
    obtain ⟨t, e4, o⟩ := sg.get e3
    rw [e4] at e2
    have e2 : t = s := by simpa using e2
    subst e2; exact o
  · rw [if_neg h] at e2
    have e3 : (wipeP ρ' vs)[i]? = some p := by rw [wipeP_get, if_neg h]; exact e1
    obtain ⟨t, e4, o⟩ := s2.get e3
    rw [e4] at e2
    have e2 : t = s := by simpa using e2
    subst e2; exact o
theorem ke_rest {vs : List Nat} {g g2 : Gam} (hl : g2.length = g.length) (hk : ∀ i s, i ∉ vs → g[i]? = some s → ∃ t, g2[i]? = some t ∧ KeS s t) : Ke g (restW vs g g2) :=
  All2.of_get (by simp [restW, hl]) fun i s t e1 e2 => by
    rw [restW_get] at e2
    have hi : i < g.length := (List.getElem?_eq_some_iff.mp e1).1
    rw [if_pos (by omega)] at e2
    by_cases h : i ∈ vs
    · rw [if_pos h, e1] at e2
      have e2 : s = t := by simpa using e2
      subst e2; exact KeS.refl s
    · rw [if_neg h] at e2
      obtain ⟨u, e3, k⟩ := hk i s h e1
      rw [e3] at e2
      have e2 : u = t := by simpa using e2
      subst e2; exact k
theorem backS_ke {s u : Sl} (k : KeS (rfS s) u) : KeS s (backS s u) := by
  cases s with
  | no => have k : u = .no := k; subst k; exact rfl
  | sh d => have k : u = .sh d := k; subst k; exact rfl
  | ow d => obtain ⟨d', rfl⟩ := k; exact .inl ⟨d', rfl⟩
  | rf d => obtain ⟨d', rfl⟩ := k; exact ⟨d', rfl⟩
/-- .. its kinds -/
theorem comp_ke {B : Type} {vs : List Nat} {S : B → Env} {f : D → Gam → R} {body : B → D → M (Option D × B)} (hw : ∀ b, wipeP (S b) vs = S b) (hn : ∀ b b', Nxt (S b) (S b'))
    (hb : ∀ b d, CT vs ((S b).map toRfP) (f d) (body b d) fun b' => (S b').map toRfP) : ∀ (ds : List D) (b : B) (g : Gam) (acc : List D), Sim g (S b) → match lcS body ds b with
    | .ok r => ∀ out g', compR f vs ds g acc = some (out, g') → g'.length = g.length ∧ ∀ i s, i ∉ vs → g[i]? = some s → ∃ t, g'[i]? = some t ∧ KeS s t
    | _ => True
  | [], b, g, acc, sg => fun out g' e => by
    unfold compR at e
    cases e
    exact ⟨rfl, fun i s _ e => ⟨s, e, KeS.refl s⟩⟩
  | d :: ds, b, g, acc, sg => by
    have := hb b d (toRf g) (sim_rf sg)
    unfold lcS
    cases hm : body b d with
    | err => trivial
    | exc c => trivial
    | ok r =>
      rw [hm] at this
      obtain ⟨g', k1, s1, e1⟩ := this
      obtain ⟨l1, s2⟩ := sim_back sg (hw b) (hn b r.2) k1 s1 (hw r.2)
      rw [M.ok_bind]
      have ih := fun acc => comp_ke hw hn hb ds r.2 (wipeG (back g g') vs) acc s2
      have kk : ∀ i s, i ∉ vs → g[i]? = some s → ∃ t, (wipeG (back g g') vs)[i]? = some t ∧ KeS s t := fun i s hi e => by
        have e5 : (toRf g)[i]? = some (rfS s) := by rw [toRf_eq, List.getElem?_map, e]; rfl
        obtain ⟨u, e6, ku⟩ := k1.2 i _ hi e5
        exact ⟨backS s u, by rw [wipeG_get, if_neg hi]; exact back_gt g g' i e e6, backS_ke ku⟩
      have lb : (wipeG (back g g') vs).length = g.length := by rw [wipeG_length]; unfold back; rw [List.length_zipWith]; omega
      cases hm2 : lcS body ds r.2 with
      | err => trivial
      | exc c => trivial
      | ok q =>
        intro out g2 e2
        have fin : ∀ acc', compR f vs ds (wipeG (back g g') vs) acc' = some (out, g2) → g2.length = g.length ∧ ∀ i s, i ∉ vs → g[i]? = some s → ∃ t, g2[i]? = some t ∧ KeS s t := fun acc' e3 => by
          have h := ih acc'
          rw [hm2] at h
          obtain ⟨h1, h2⟩ := h out g2 e3
          refine ⟨h1.trans lb, fun i s hi e => ?_⟩
          obtain ⟨t, e4, k2⟩ := kk i s hi e
          obtain ⟨u, e5, k3⟩ := h2 i t hi e4
          exact ⟨u, e5, k2.trans k3⟩
        unfold compR at e2
        rw [e1] at e2
        cases hr : r.1 with
        | none =>
          rw [hr] at e2
          have e2 : (if g'.length = g.length then compR f vs ds (wipeG (back g g') vs) acc else none) = _ := e2
          rw [if_pos l1] at e2
          exact fin acc e2
        | some y =>
          rw [hr] at e2
          have e2 : (if g'.length = g.length then compR f vs ds (wipeG (back g g') vs) (acc ++ [y]) else none) = _ := e2
          rw [if_pos l1] at e2
          exact fin (acc ++ [y]) e2
section
variable {α A B C E : Type} {ρ : Env} {mi : M A} {vi : A → List D} {ρ1 : A → Env} {fi : DnL} {fg : DnG} {ft : DnB} {fe : DnD} {vs : List Nat}
/-- with a state: S b the slots behind -/
theorem es_lcS {v : C → D} {ρ' : C → Env} (S : A → B → Env) (b0 : A → B) {body : A → B → D → M (Option D × B)} {p : A → List D × B → C} (hi : ED ρ fi mi vi ρ1) (h0 : ∀ a, LeE (ρ1 a) (S a (b0 a))) (ho : ∀ a, (vs.all fun i => ((S a (b0 a))[i]?).any noOw) = true) (hn : ∀ a b b', Nxt (wipeP (S a b) vs) (wipeP (S a b') vs))
    (hw : ∀ a b, wipeP (wipeP (S a b) vs) vs = wipeP (S a b) vs) (hv : ∀ a b, ∀ i ∈ vs, (S a b)[i]? = (S a (b0 a))[i]?)
    (hb : ∀ a b d, CT vs ((wipeP (S a b) vs).map toRfP) (turnC fg ft fe d) (body a b d) fun b' => (wipeP (S a b') vs).map toRfP) (e : ∀ a r, v (p a r) = .list r.1 ∧ ρ' (p a r) = S a r.2) :
    ES ρ (lcC vs fi fg ft fe) .fo (mi.bind fun a => (lcS (body a) (vi a) (b0 a)).noX.bind fun r => .ok (p a r)) v ρ' :=
  ED.seqS (fb := fun ds g1 k => if okW vs g1 = true then (match compR (turnC fg ft fe) vs ds (wipeG g1 vs) [] with
  | some (out, g2) => k (.ow (.list out)) (restW vs g1 g2)
  | none => .err) else .err) hi fun a g sg => by
    have s0 := (h0 a).sim sg
    have r1 := comp_run (hw a) (hn a) (hb a) (vi a) (b0 a) (wipeG g vs) [] (sim_wipe s0 vs)
    have r2 := comp_ke (hw a) (hn a) (hb a) (vi a) (b0 a) (wipeG g vs) [] (sim_wipe s0 vs)
    cases hm : lcS (body a) (vi a) (b0 a) with
    | err => trivial
    | exc c => trivial
    | ok r =>
      rw [hm] at r1 r2
      obtain ⟨g2, e1, s2⟩ := r1
      obtain ⟨l2, k2⟩ := r2 _ _ e1
      rw [wipeG_length] at l2
      refine ⟨.ow (.list r.1), restW vs g g2, by rw [(e a r).1]; exact rfl, ?_, ke_rest l2 fun i s hi es => k2 i s hi (by rw [wipeG_get, if_neg hi]; exact es), fun k => ?_⟩
      · rw [(e a r).2]
        exact rest_ok s0 s2 rfl (hv a r.2)
      · show (if okW vs g = true then (match compR (turnC fg ft fe) vs (vi a) (wipeG g vs) [] with
          | some (out, g2) => k (.ow (.list out)) (restW vs g g2)
          | none => .err) else .err) = _
        rw [if_pos (okW_of s0 (ho a)), e1]
        rfl
/-- a turn: the target, the test, the item -/
theorem ct_of {d : D} {mt : M A} {mc : A → M C} {vc : A → C → Bool} {ρ2 : A → C → Env} {me : A → C → M E} {ve : A → C → E → D} {pe : A → C → E → B} {pn : A → C → B} {ρ3 : A → C → E → Env} {ρ' : B → Env} (ht : GT vs ρ (fg d) mt ρ1) (hc : ∀ a, ED (ρ1 a) ft (mc a) (vc a) (ρ2 a))
    (he : ∀ a c, ED (ρ2 a c) fe (me a c) (ve a c) (ρ3 a c)) (h1 : ∀ a c x, wipeP (ρ3 a c x) vs = ρ' (pe a c x)) (h2 : ∀ a c, wipeP (ρ2 a c) vs = ρ' (pn a c)) :
    CT vs ρ (turnC fg ft fe d) (mt.bind fun a => (mc a).bind fun c => if vc a c = true then (me a c).bind fun x => .ok (some (ve a c x), pe a c x) else .ok (none, pn a c)) ρ' := fun g sg => by
  have t1 := ht g sg
  cases mt with
  | err => trivial
  | exc c => trivial
  | ok a =>
    obtain ⟨g1, s1, k1, e1⟩ := t1
    have t2 := hc a g1 s1
    rw [M.ok_bind]
    cases hm : mc a with
    | err => trivial
    | exc c => trivial
    | ok c =>
      rw [hm] at t2
      obtain ⟨g2, s2, k2, e2⟩ := t2
      rw [M.ok_bind]
      cases hv : vc a c with
      | false =>
        rw [if_neg (by simp)]
        refine ⟨g2, k1.trans k2.x, by have := sim_wipe s2 vs; rw [h2] at this; exact this, ?_⟩
        unfold turnC
        rw [e1, e2, hv]; rfl
      | true =>
        rw [if_pos rfl]
        have t3 := he a c g2 s2
        cases hm2 : me a c with
        | err => trivial
        | exc c => trivial
        | ok x =>
          rw [hm2] at t3
          obtain ⟨g3, s3, k3, e3⟩ := t3
          refine ⟨g3, (k1.trans k2.x).trans k3.x, by have := sim_wipe s3 vs; rw [h1] at this; exact this, ?_⟩
          unfold turnC
          rw [e1, e2, hv]
          show fe g2 _ = _
          rw [e3]
theorem es_lcF {v : C → D} {ρ' : C → Env} {body : A → D → M (Option D)} {p : A → List D → C} (hi : ED ρ fi mi vi ρ1) (ho : ∀ a, (vs.all fun i => ((ρ1 a)[i]?).any noOw) = true)
    (hw : ∀ a, wipeP (wipeP (ρ1 a) vs) vs = wipeP (ρ1 a) vs)
    (hb : ∀ a d, CT (B := Unit) vs ((wipeP (ρ1 a) vs).map toRfP) (turnC fg ft fe d) ((body a d).bind fun x => .ok (x, ())) fun _ => (wipeP (ρ1 a) vs).map toRfP) (e : ∀ a r, v (p a r) = .list r ∧ ρ' (p a r) = ρ1 a) :
    ES ρ (lcC vs fi fg ft fe) .fo (mi.bind fun a => (lcF (body a) (vi a)).noX.bind fun r => .ok (p a r)) v ρ' := by
  have := es_lcS (B := Unit) (v := v) (ρ' := ρ') (vs := vs) (fg := fg) (ft := ft) (fe := fe) (fun a _ => ρ1 a) (fun _ => ()) (p := fun a r => p a r.1) (body := fun a _ d => (body a d).bind fun x => .ok (x, ())) hi (fun a => LeE.refl _) ho (fun a _ _ => Nxt.refl _) (fun a _ => hw a) (fun _ _ _ _ => rfl) (fun a _ d => hb a d) (fun a r => e a r.1)
  have q : (fun a => (lcS (B := Unit) (fun _ d => (body a d).bind fun x => .ok (x, ())) (vi a) ()).noX.bind fun r => M.ok (p a r.1)) = fun a => (lcF (body a) (vi a)).noX.bind fun r => .ok (p a r) := by
    funext a
    rw [lcF_S]
    cases lcF (body a) (vi a) <;> rfl
  rw [q] at this
  exact this
theorem es_lcE {v : C → D} {ρ' : C → Env} {body : A → D → M D} {p : A → List D → C} (hi : ED ρ fi mi vi ρ1) (ho : ∀ a, (vs.all fun i => ((ρ1 a)[i]?).any noOw) = true)
    (hw : ∀ a, wipeP (wipeP (ρ1 a) vs) vs = wipeP (ρ1 a) vs)
    (hb : ∀ a d, CT (B := Unit) vs ((wipeP (ρ1 a) vs).map toRfP) (turnC fg ft fe d) ((body a d).bind fun x => .ok (some x, ())) fun _ => (wipeP (ρ1 a) vs).map toRfP) (e : ∀ a r, v (p a r) = .list r ∧ ρ' (p a r) = ρ1 a) :
    ES ρ (lcC vs fi fg ft fe) .fo (mi.bind fun a => (lcE (body a) (vi a)).noX.bind fun r => .ok (p a r)) v ρ' := by
  have := es_lcS (B := Unit) (v := v) (ρ' := ρ') (vs := vs) (fg := fg) (ft := ft) (fe := fe) (fun a _ => ρ1 a) (fun _ => ()) (p := fun a r => p a r.1) (body := fun a _ d => (body a d).bind fun x => .ok (some x, ())) hi (fun a => LeE.refl _) ho (fun a _ _ => Nxt.refl _) (fun a _ => hw a) (fun _ _ _ _ => rfl) (fun a _ d => hb a d) (fun a r => e a r.1)
  have q : (fun a => (lcS (B := Unit) (fun _ d => (body a d).bind fun x => .ok (some x, ())) (vi a) ()).noX.bind fun r => M.ok (p a r.1)) = fun a => (lcE (body a) (vi a)).noX.bind fun r => .ok (p a r) := by
    funext a
    rw [lcE_S]
    cases lcE (body a) (vi a) <;> rfl
  rw [q] at this
  exact this
/-- a turn without a test -/
theorem ct_all {d : D} {mt : M A} {me : A → M E} {ve : A → E → D} {pe : A → E → B} {ρ3 : A → E → Env} {ρ' : B → Env} (ht : GT vs ρ (fg d) mt ρ1)
    (he : ∀ a, ED (ρ1 a) fe (me a) (ve a) (ρ3 a)) (h1 : ∀ a x, wipeP (ρ3 a x) vs = ρ' (pe a x)) :
    CT vs ρ (turnC fg yesB fe d) (mt.bind fun a => (me a).bind fun x => .ok (some (ve a x), pe a x)) ρ' := fun g sg => by
  have t1 := ht g sg
  cases mt with
  | err => trivial
  | exc c => trivial
  | ok a =>
    obtain ⟨g1, s1, k1, e1⟩ := t1
    rw [M.ok_bind]
    have t3 := he a g1 s1
    cases hm2 : me a with
    | err => trivial
    | exc c => trivial
    | ok x =>
      rw [hm2] at t3
      obtain ⟨g3, s3, k3, e3⟩ := t3
      refine ⟨g3, k1.trans k3.x, by have := sim_wipe s3 vs; rw [h1] at this; exact this, ?_⟩
      unfold turnC
      rw [e1]
      show fe g1 _ = _
      rw [e3]
end

/-! ### try -/
def tryM {B : Type} (yes : Nat → Option Bool) : M (St1 Unit B) → M (St1 Unit B)
  | .exc c => match yes c with
    | some true => .ok (.nx ())
    | some false => .exc c
    | none => .err
  | m => m
def thenT {B ω : Type} (κ : M ω) (e : B → ω) : St1 Unit B → M ω
  | .nx _ => κ
  | .br _ => .err
  | .rt w => .ok (e w)
def ShIn (ρ : Env) (g : Gam) : Prop := g.length = ρ.length ∧ ∀ (i : Nat) (d : D), ρ[i]? = some (Pk.sh d) → g[i]? = some (Sl.sh d)
def RlT (ρ : Env) : Rl D (St1 Unit D) where
  bs := fun r w => ∃ g, r = .ret (.sh w) g ∧ ShIn ρ g
  bsr := fun r w ⟨g, e, _⟩ => ⟨_, g, e⟩
  rel := fun r m => match m with
    | .ok (.nx _) => ∃ g, r = .nx g ∧ ShIn ρ g
    | .ok (.br _) => False
    | .ok (.rt w) => ∃ g, r = .ret (.sh w) g ∧ ShIn ρ g
    | .exc c => ∃ g, r = .exc c g ∧ ShIn ρ g
    | .err => True
  emb := .rt
  px := ShIn ρ
  err := fun _ => trivial
  exc := fun c g h => ⟨g, rfl, h⟩
  ret := fun _ _ h => h
theorem shIn_sim {ρ : Env} {g : Gam} (s : Sim g ρ) : ShIn ρ g := ⟨s.len.symm, fun i d e => by
  obtain ⟨t, e1, o⟩ := s.get e
  have o : t = .sh d := o
  rw [e1, o]⟩
theorem pxT {ρ : Env} : PX (RlT ρ) ρ := fun g g' s k => ⟨k.len.symm.trans s.len.symm, fun i d e => by
  obtain ⟨t, e1, o⟩ := s.get e
  have o : t = .sh d := o
  subst o
  obtain ⟨u, e2, o2⟩ := k.get e1
  have o2 : u = .sh d := o2
  rw [e2, o2]⟩
theorem rk_nxT {ρ : Env} : RK (RlT ρ) ρ .nx (.ok (.nx ())) := fun g s => ⟨g, rfl, shIn_sim s⟩
theorem rt_retT {A : Type} {ρ : Env} {k : Gam → R} {ma : M A} {va : A → D} {fe : DnS} (he : ES ρ fe .sh ma va fun _ => ρ) : RT (RlT ρ) ρ (retT fe) k (ma.bind fun a => .ok (.rt (va a))) :=
  rt_es (K := fun s g' => .ret s g') he pxT fun a s o g sg => by
    have o : s = .sh (va a) := o
    subst o
    exact ⟨g, rfl, shIn_sim sg⟩
def shP : Pk → Pk
  | .sh d => .sh d
  | .rf _ => .an
  | .br _ => .an
  | .an => .an
  | _ => .un
theorem backS_no {s u : Sl} (h : ∀ d, s ≠ .rf d) : ∀ d, backS s u ≠ .rf d := by
  intro d e
  cases s with
  | rf x => exact h x rfl
  | no => cases u <;> cases e
  | sh x => cases u <;> cases e
  | ow x => cases u <;> cases e
theorem sim_try {ρ : Env} {g g' : Gam} (s : Sim g ρ) (h : ShIn (ρ.map toRfP) g') : g'.length = g.length ∧ Sim (back g g') (ρ.map shP) := by
  have l1 : g'.length = g.length := by have := h.1; have := s.len; simp at *; omega
  refine ⟨l1, All2.of_get (by unfold back; rw [List.length_zipWith, List.length_map]; have := s.len; omega) fun i p t e1 e2 => ?_⟩
  rw [List.getElem?_map] at e1
  cases hq : ρ[i]? with
  | none => rw [hq] at e1; cases e1
  | some q =>
    rw [hq] at e1
    have e1 : shP q = p := by simpa using e1
    subst e1
    obtain ⟨u, e3, o⟩ := s.get hq
    have hi : i < g'.length := by rw [l1]; exact (List.getElem?_eq_some_iff.mp e3).1
    obtain ⟨w, e4⟩ : ∃ w, g'[i]? = some w := ⟨g'[i], List.getElem?_eq_getElem hi⟩
    rw [back_gt g g' i e3 e4] at e2
    cases e2
    cases q with
    | sh d =>
      have o : u = .sh d := o
      subst o
      have := h.2 i d (by rw [List.getElem?_map, hq]; rfl)
      rw [e4] at this; cases this
      exact rfl
    | rf d => trivial
    | br d => trivial
    | an => trivial
    | em => exact backS_no (by intro d e; have o : u = .no := o; rw [o] at e; cases e)
    | un => exact backS_no o
    | fo d => exact backS_no (by intro x e; rcases kdFo _ _ o with o | o <;> rw [o] at e <;> cases e)
    | va d => exact backS_no (by intro x e; rcases o with o | o <;> rw [o] at e <;> cases e)
    | ow d => exact backS_no (by intro x e; have o : u = .ow d := o; rw [o] at e; cases e)
theorem rt_try {ω : Type} {Ω : Rl D ω} (hb : Ω.bs = bs0) (hp : ∀ g, Ω.px g) {ρ : Env} {i : Nat} {yes : Nat → Option Bool} {fb : DnT} {k : Gam → R} {m : M (St1 Unit D)} {κ : M ω} (hi : ρ[i]? = some .em)
    (h : RT (RlT (ρ.map toRfP)) (ρ.map toRfP) fb .nx m) (hk : RK Ω (ρ.map shP) k κ) : RT Ω ρ (tryW i yes fb) k ((tryM yes m).bind (thenT κ Ω.emb)) := fun g sg => by
  obtain ⟨t, e, o⟩ := sg.get hi
  have o : t = .no := o
  have := h (toRf g) (sim_rf sg)
  unfold tryW
  rw [e, o]
  show Ω.rel (match fb (toRf g) .nx with
    | .nx g' => if g'.length = g.length then k (back g g') else .err
    | .exc c g' => if g'.length = g.length then (match yes c with
      | some true => k ((back g g').set i .no)
      | some false => .exc c (back g g')
      | none => .err) else .err
    | .ret (.sh d) g' => if g'.length = g.length then .ret (.sh d) (back g g') else .err
    | _ => .err) _
  cases m with
  | err => exact Ω.err _
  | exc c =>
    obtain ⟨g', e1, h1⟩ := this
    obtain ⟨l1, s1⟩ := sim_try sg h1
    rw [e1]
    show Ω.rel (if g'.length = g.length then (match yes c with
      | some true => k ((back g g').set i .no)
      | some false => .exc c (back g g')
      | none => .err) else .err) ((match yes c with
        | some true => M.ok (St1.nx ())
        | some false => .exc c
        | none => .err).bind _)
    rw [if_pos l1]
    cases yes c with
    | none => exact Ω.err _
    | some b =>
      cases b with
      | false => exact Ω.exc c _ (hp _)
      | true =>
        refine hk _ ?_
        have hi2 : (ρ.map shP)[i]? = some .un := by rw [List.getElem?_map, hi]; rfl
        have : (ρ.map shP) = (ρ.map shP).set i .un := by
          apply List.ext_getElem?
          intro j
          by_cases hj : i = j
          · subst hj
            rw [hi2, List.getElem?_set_self (List.getElem?_eq_some_iff.mp hi2).1]
          · rw [List.getElem?_set_ne hj]
        rw [this]
        exact All2.set s1 (show PkOk .un .no from fun d z => by cases z)
  | ok r =>
    cases r with
    | br _ => exact this.elim
    | nx _ =>
      obtain ⟨g', e1, h1⟩ := this
      obtain ⟨l1, s1⟩ := sim_try sg h1
      rw [e1]
      show Ω.rel (if g'.length = g.length then k (back g g') else .err) κ
      rw [if_pos l1]
      exact hk _ s1
    | rt w =>
      obtain ⟨g', e1, h1⟩ := this
      obtain ⟨l1, s1⟩ := sim_try sg h1
      rw [e1]
      show Ω.rel (if g'.length = g.length then .ret (.sh w) (back g g') else .err) _
      rw [if_pos l1]
      exact Ω.ret _ _ (by rw [hb]; exact ⟨_, _, rfl, .inl rfl⟩)
set_option Elab.async false
set_option linter.all false
set_option maxRecDepth 100000
open PySem L2

section
variable {α A B C E F : Type} {ρ : Env} {ma : M A} {mb : A → M B} {mc : A → B → M C} {ρ1 : A → Env} {ρ2 : A → B → Env} {kd : D → Pk}
/-- an answer in another form, with weaker slots -/
theorem ed_to {fe : Gam → (α → Gam → R) → R} {va : A → α} {p : A → C} {v : C → α} {ρ' : C → Env} (h : ED ρ fe ma va ρ1) (e : ∀ a, v (p a) = va a) (l : ∀ a, LeE (ρ1 a) (ρ' (p a))) : ED ρ fe (ma.bind fun a => .ok (p a)) v ρ' := fun g s => by
  have := h g s
  cases ma with
  | err => trivial
  | exc c => exact this
  | ok a => obtain ⟨g', s', k, h⟩ := this; exact ⟨g', (l a).sim s', k, fun k => by rw [h, e]⟩
theorem es_to {fe : DnS} {va : A → D} {p : A → C} {v : C → D} {ρ' : C → Env} (h : ES ρ fe kd ma va ρ1) (e : ∀ a, v (p a) = va a) (l : ∀ a, LeE (ρ1 a) (ρ' (p a))) : ES ρ fe kd (ma.bind fun a => .ok (p a)) v ρ' := fun g s => by
  have := h g s
  cases ma with
  | err => trivial
  | exc c => exact this
  | ok a => obtain ⟨t, g', o, s', k, h⟩ := this; exact ⟨t, g', by rw [e]; exact o, (l a).sim s', k, h⟩
theorem ed_constL {c : C} {fe : Gam → (α → Gam → R) → R} {v : C → α} {ρ' : C → Env} {x : α} (hf : ∀ g k, fe g k = k x g) (e : v c = x) (l : LeE ρ (ρ' c)) : ED ρ fe (.ok c) v ρ' := fun g s => ⟨g, l.sim s, Ke.refl g, fun k => by rw [hf, e]⟩
theorem ed_andL {fa fb : DnB} {va : A → Bool} {m2 : A → M C} {p : A → C} {v : C → Bool} {ρ' : C → Env}
    (ha : ED ρ fa ma va ρ1) (h2 : ∀ a, ED (ρ1 a) fb (m2 a) v ρ') (e : ∀ a, v (p a) = false) (l : ∀ a, LeE (ρ1 a) (ρ' (p a))) :
    ED ρ (andB fa fb) (ma.bind fun a => if va a = true then m2 a else .ok (p a)) v ρ' :=
  ED.seq (fb := fun b g1 k => if b = true then fb g1 k else k false g1) ha fun a => by
    cases va a with
    | true => exact h2 a
    | false => exact ed_constL (x := false) (fun _ _ => rfl) (e a) (l a)
theorem ed_orL {fa fb : DnB} {va : A → Bool} {m2 : A → M C} {p : A → C} {v : C → Bool} {ρ' : C → Env}
    (ha : ED ρ fa ma va ρ1) (h2 : ∀ a, ED (ρ1 a) fb (m2 a) v ρ') (e : ∀ a, v (p a) = true) (l : ∀ a, LeE (ρ1 a) (ρ' (p a))) :
    ED ρ (orB fa fb) (ma.bind fun a => if va a = true then .ok (p a) else m2 a) v ρ' :=
  ED.seq (fb := fun b g1 k => if b = true then k true g1 else fb g1 k) ha fun a => by
    cases va a with
    | true => exact ed_constL (x := true) (fun _ _ => rfl) (e a) (l a)
    | false => exact h2 a
theorem ed_andVL {fa fb : DnD} {va : A → D} {m2 : A → M C} {p : A → C} {v : C → D} {ρ' : C → Env}
    (ha : ED ρ fa ma va ρ1) (h2 : ∀ a, ED (ρ1 a) fb (m2 a) v ρ') (e : ∀ a, v (p a) = va a) (l : ∀ a, LeE (ρ1 a) (ρ' (p a))) :
    ED ρ (andV fa fb) (ma.bind fun a => (liftO (truD (va a))).bind fun t => if t = true then m2 a else .ok (p a)) v ρ' :=
  ED.seq (fb := fun x g1 k => match truD x with
    | some true => fb g1 k
    | some false => k x g1
    | none => .err) ha fun a => by
    cases h : truD (va a) with
    | none => exact fun g s => trivial
    | some t =>
      cases t with
      | true => exact h2 a
      | false => exact ed_constL (x := va a) (fun _ _ => rfl) (e a) (l a)
theorem ed_orVL {fa fb : DnD} {va : A → D} {m2 : A → M C} {p : A → C} {v : C → D} {ρ' : C → Env}
    (ha : ED ρ fa ma va ρ1) (h2 : ∀ a, ED (ρ1 a) fb (m2 a) v ρ') (e : ∀ a, v (p a) = va a) (l : ∀ a, LeE (ρ1 a) (ρ' (p a))) :
    ED ρ (orV fa fb) (ma.bind fun a => (liftO (truD (va a))).bind fun t => if t = true then .ok (p a) else m2 a) v ρ' :=
  ED.seq (fb := fun x g1 k => match truD x with
    | some true => k x g1
    | some false => fb g1 k
    | none => .err) ha fun a => by
    cases h : truD (va a) with
    | none => exact fun g s => trivial
    | some t =>
      cases t with
      | false => exact h2 a
      | true => exact ed_constL (x := va a) (fun _ _ => rfl) (e a) (l a)
end
section
variable {A B C E G : Type} {ρ : Env} {mi : M A} {vi : A → List D} {ρ1 : A → Env} {fi : DnL} {fg : DnG} {ft : DnB} {fe : DnD} {vs : List Nat}
/-- comprehensions, their parts apart -/
theorem es_lcE2 {mt : A → D → M B} {ρt : A → D → B → Env} {me : A → D → B → M C} {ve : A → D → B → C → D} {ρe : A → D → B → C → Env} {v : E → D} {ρ' : E → Env} {p : A → List D → E} (hi : ED ρ fi mi vi ρ1) (ho : ∀ a, (vs.all fun i => ((ρ1 a)[i]?).any noOw) = true)
    (hw : ∀ a, wipeP (wipeP (ρ1 a) vs) vs = wipeP (ρ1 a) vs) (ht : ∀ a d, GT vs ((wipeP (ρ1 a) vs).map toRfP) (fg d) (mt a d) (ρt a d)) (he : ∀ a d t, ED (ρt a d t) fe (me a d t) (ve a d t) (ρe a d t))
    (h1 : ∀ a d t x, wipeP (ρe a d t x) vs = (wipeP (ρ1 a) vs).map toRfP) (e : ∀ a r, v (p a r) = .list r ∧ ρ' (p a r) = ρ1 a) :
    ES ρ (lcC vs fi fg yesB fe) .fo (mi.bind fun a => (lcE (fun d => (mt a d).bind fun t => (me a d t).bind fun x => .ok (ve a d t x)) (vi a)).noX.bind fun r => .ok (p a r)) v ρ' :=
  es_lcE hi ho hw (fun a d => by
    rw [M.bind_assoc]
    simp only [M.bind_assoc, M.ok_bind]
    exact ct_all (ρ' := fun _ => (wipeP (ρ1 a) vs).map toRfP) (pe := fun _ _ => ()) (ht a d) (he a d) (h1 a d)) e
theorem es_lcF2 {mt : A → D → M B} {ρt : A → D → B → Env} {mc : A → D → B → M G} {vc : A → D → B → G → Bool} {ρc : A → D → B → G → Env} {me : A → D → B → G → M C} {ve : A → D → B → G → C → D} {ρe : A → D → B → G → C → Env} {v : E → D} {ρ' : E → Env} {p : A → List D → E} (hi : ED ρ fi mi vi ρ1) (ho : ∀ a, (vs.all fun i => ((ρ1 a)[i]?).any noOw) = true)
    (hw : ∀ a, wipeP (wipeP (ρ1 a) vs) vs = wipeP (ρ1 a) vs) (ht : ∀ a d, GT vs ((wipeP (ρ1 a) vs).map toRfP) (fg d) (mt a d) (ρt a d)) (hc : ∀ a d t, ED (ρt a d t) ft (mc a d t) (vc a d t) (ρc a d t)) (he : ∀ a d t c, ED (ρc a d t c) fe (me a d t c) (ve a d t c) (ρe a d t c))
    (h1 : ∀ a d t c x, wipeP (ρe a d t c x) vs = (wipeP (ρ1 a) vs).map toRfP) (h2 : ∀ a d t c, wipeP (ρc a d t c) vs = (wipeP (ρ1 a) vs).map toRfP) (e : ∀ a r, v (p a r) = .list r ∧ ρ' (p a r) = ρ1 a) :
    ES ρ (lcC vs fi fg ft fe) .fo (mi.bind fun a => (lcF (fun d => (mt a d).bind fun t => (mc a d t).bind fun c => if vc a d t c = true then (me a d t c).bind fun x => .ok (some (ve a d t c x)) else .ok none) (vi a)).noX.bind fun r => .ok (p a r)) v ρ' :=
  es_lcF hi ho hw (fun a d => by
    have := ct_of (ρ' := fun _ => (wipeP (ρ1 a) vs).map toRfP) (pe := fun _ _ _ => ()) (pn := fun _ _ => ()) (ht a d) (hc a d) (he a d) (h1 a d) (h2 a d)
    have q : ((mt a d).bind fun t => (mc a d t).bind fun c => if vc a d t c = true then (me a d t c).bind fun x => M.ok (some (ve a d t c x), ()) else .ok (none, ())) = (((mt a d).bind fun t => (mc a d t).bind fun c => if vc a d t c = true then (me a d t c).bind fun x => .ok (some (ve a d t c x)) else .ok none).bind fun x => .ok (x, ())) := by
      rw [M.bind_assoc]
      congr 1; funext t
      rw [M.bind_assoc]
      congr 1; funext c
      split
      · simp only [M.bind_assoc, M.ok_bind]
      · rfl
    rw [← q]
    exact this) e
theorem es_lcS2 {H : Type} {v : E → D} {ρ' : E → Env} (S : A → B → Env) (b0 : A → B) {mt : A → B → D → M H} {ρt : A → B → D → H → Env} {mc : A → B → D → H → M G} {vc : A → B → D → H → G → Bool} {ρc : A → B → D → H → G → Env} {me : A → B → D → H → G → M C} {ve : A → B → D → H → G → C → D} {pe : A → B → D → H → G → C → B} {pn : A → B → D → H → G → B} {ρe : A → B → D → H → G → C → Env} {p : A → List D × B → E} (hi : ED ρ fi mi vi ρ1) (h0 : ∀ a, LeE (ρ1 a) (S a (b0 a))) (ho : ∀ a, (vs.all fun i => ((S a (b0 a))[i]?).any noOw) = true) (hn : ∀ a b b', Nxt (wipeP (S a b) vs) (wipeP (S a b') vs))
    (hw : ∀ a b, wipeP (wipeP (S a b) vs) vs = wipeP (S a b) vs) (hv : ∀ a b, ∀ i ∈ vs, (S a b)[i]? = (S a (b0 a))[i]?)
    (ht : ∀ a b d, GT vs ((wipeP (S a b) vs).map toRfP) (fg d) (mt a b d) (ρt a b d)) (hc : ∀ a b d t, ED (ρt a b d t) ft (mc a b d t) (vc a b d t) (ρc a b d t)) (he : ∀ a b d t c, ED (ρc a b d t c) fe (me a b d t c) (ve a b d t c) (ρe a b d t c))
    (h1 : ∀ a b d t c x, wipeP (ρe a b d t c x) vs = (wipeP (S a (pe a b d t c x)) vs).map toRfP) (h2 : ∀ a b d t c, wipeP (ρc a b d t c) vs = (wipeP (S a (pn a b d t c)) vs).map toRfP) (e : ∀ a r, v (p a r) = .list r.1 ∧ ρ' (p a r) = S a r.2) :
    ES ρ (lcC vs fi fg ft fe) .fo (mi.bind fun a => (lcS (fun b d => (mt a b d).bind fun t => (mc a b d t).bind fun c => if vc a b d t c = true then (me a b d t c).bind fun x => .ok (some (ve a b d t c x), pe a b d t c x) else .ok (none, pn a b d t c)) (vi a) (b0 a)).noX.bind fun r => .ok (p a r)) v ρ' :=
  es_lcS S b0 hi h0 ho hn hw hv (fun a b d => ct_of (ρ' := fun b' => (wipeP (S a b') vs).map toRfP) (ht a b d) (hc a b d) (he a b d) (h1 a b d) (h2 a b d)) e
theorem es_lcT2 {H : Type} {v : E → D} {ρ' : E → Env} (S : A → B → Env) (b0 : A → B) {mt : A → B → D → M H} {ρt : A → B → D → H → Env} {me : A → B → D → H → M C} {ve : A → B → D → H → C → D} {pe : A → B → D → H → C → B} {ρe : A → B → D → H → C → Env} {p : A → List D × B → E} (hi : ED ρ fi mi vi ρ1) (h0 : ∀ a, LeE (ρ1 a) (S a (b0 a))) (ho : ∀ a, (vs.all fun i => ((S a (b0 a))[i]?).any noOw) = true) (hn : ∀ a b b', Nxt (wipeP (S a b) vs) (wipeP (S a b') vs))
    (hw : ∀ a b, wipeP (wipeP (S a b) vs) vs = wipeP (S a b) vs) (hv : ∀ a b, ∀ i ∈ vs, (S a b)[i]? = (S a (b0 a))[i]?)
    (ht : ∀ a b d, GT vs ((wipeP (S a b) vs).map toRfP) (fg d) (mt a b d) (ρt a b d)) (he : ∀ a b d t, ED (ρt a b d t) fe (me a b d t) (ve a b d t) (ρe a b d t))
    (h1 : ∀ a b d t x, wipeP (ρe a b d t x) vs = (wipeP (S a (pe a b d t x)) vs).map toRfP) (e : ∀ a r, v (p a r) = .list r.1 ∧ ρ' (p a r) = S a r.2) :
    ES ρ (lcC vs fi fg yesB fe) .fo (mi.bind fun a => (lcS (fun b d => (mt a b d).bind fun t => (me a b d t).bind fun x => .ok (some (ve a b d t x), pe a b d t x)) (vi a) (b0 a)).noX.bind fun r => .ok (p a r)) v ρ' :=
  es_lcS S b0 hi h0 ho hn hw hv (fun a b d => ct_all (ρ' := fun b' => (wipeP (S a b') vs).map toRfP) (ht a b d) (he a b d) (h1 a b d)) e
end

/-! ### without a state -/
section
variable {A B C E : Type} {ρ ρ1 ρ2 ρ3 : Env} {ma : M A} {mb : A → M B} {mc : A → B → M C} {kd : D → Pk}
theorem ed_bin0 {op : D → D → Option D} {fa fb : DnD} {va : A → D} {vb : A → B → D} (ha : ED ρ fa ma va fun _ => ρ1) (hb : ∀ a, ED ρ1 fb (mb a) (vb a) fun _ => ρ2) :
    ED ρ (binD op fa fb) (ma.bind fun a => (mb a).bind fun b => (liftO (op (va a) (vb a b))).bind fun d => .ok d) (fun d => d) fun _ => ρ2 := ed_bin (ρ2 := fun _ _ => ρ2) ha hb fun _ _ _ => ⟨rfl, rfl⟩
theorem ed_binB0 {op : D → D → Option Bool} {fa fb : DnD} {va : A → D} {vb : A → B → D} (ha : ED ρ fa ma va fun _ => ρ1) (hb : ∀ a, ED ρ1 fb (mb a) (vb a) fun _ => ρ2) :
    ED ρ (binB op fa fb) (ma.bind fun a => (mb a).bind fun b => (liftO (op (va a) (vb a b))).bind fun d => .ok d) (fun d => d) fun _ => ρ2 := ed_binB (ρ2 := fun _ _ => ρ2) ha hb fun _ _ _ => ⟨rfl, rfl⟩
theorem es_bin0 {op : D → D → Option Sl} (ho : ∀ x y s, op x y = some s → ∃ d, s = foS d) {fa fb : DnD} {va : A → D} {vb : A → B → D} (ha : ED ρ fa ma va fun _ => ρ1) (hb : ∀ a, ED ρ1 fb (mb a) (vb a) fun _ => ρ2) :
    ES ρ (binF op fa fb) .fo (ma.bind fun a => (mb a).bind fun b => (liftS (op (va a) (vb a b))).bind fun d => .ok d) (fun d => d) fun _ => ρ2 := es_bin (ρ2 := fun _ _ => ρ2) ho ha hb fun _ _ _ => ⟨rfl, rfl⟩
theorem ed_un0 {op : D → Option D} {fa : DnD} {va : A → D} (ha : ED ρ fa ma va fun _ => ρ1) :
    ED ρ (unD op fa) (ma.bind fun a => (liftO (op (va a))).bind fun d => .ok d) (fun d => d) fun _ => ρ1 := ed_un ha fun _ _ => ⟨rfl, rfl⟩
theorem es_un0 {op : D → Option Sl} (ho : ∀ x s, op x = some s → ∃ d, s = foS d) {fa : DnD} {va : A → D} (ha : ED ρ fa ma va fun _ => ρ1) :
    ES ρ (unF op fa) .fo (ma.bind fun a => (liftS (op (va a))).bind fun d => .ok d) (fun d => d) fun _ => ρ1 := es_un ho ha fun _ _ => ⟨rfl, rfl⟩
theorem ed_tru0 {fa : DnD} {va : A → D} (ha : ED ρ fa ma va fun _ => ρ1) :
    ED ρ (truB fa) (ma.bind fun a => (liftO (truD (va a))).bind fun d => .ok d) (fun d => d) fun _ => ρ1 := ed_tru ha fun _ _ => ⟨rfl, rfl⟩
theorem ed_notV0 {fa : DnD} {va : A → D} (ha : ED ρ fa ma va fun _ => ρ1) :
    ED ρ (notV fa) (ma.bind fun a => (liftO (truD (va a))).bind fun d => .ok d) (fun d => .bool (!d)) fun _ => ρ1 := ed_notV ha fun _ _ => ⟨rfl, rfl⟩
theorem el_cons0 {fa : DnD} {fs : DnL} {va : A → D} {vb : A → B → List D} (ha : ED ρ fa ma va fun _ => ρ1) (hb : ∀ a, ED ρ1 fs (mb a) (vb a) fun _ => ρ2) :
    ED ρ (consC fa fs) (ma.bind fun a => (mb a).bind fun b => .ok (va a :: vb a b)) (fun d => d) fun _ => ρ2 := el_cons (ρ2 := fun _ _ => ρ2) ha hb fun _ _ => ⟨rfl, rfl⟩
theorem es_ops0 {op : List D → Option Sl} (ho : ∀ x s, op x = some s → ∃ d, s = foS d) {fs : DnL} {va : A → List D} (ha : ED ρ fs ma va fun _ => ρ1) :
    ES ρ (opsF op fs) .fo (ma.bind fun a => (liftS (op (va a))).bind fun d => .ok d) (fun d => d) fun _ => ρ1 := es_ops ho ha fun _ _ => ⟨rfl, rfl⟩
theorem ed_ops0 {op : List D → Option D} {fs : DnL} {va : A → List D} (ha : ED ρ fs ma va fun _ => ρ1) :
    ED ρ (opsD op fs) (ma.bind fun a => (liftO (op (va a))).bind fun d => .ok d) (fun d => d) fun _ => ρ1 := ed_ops ha fun _ _ => ⟨rfl, rfl⟩
theorem eo_at0 {f : DnD} {va : A → D} (ha : ED ρ f ma va fun _ => ρ1) :
    ED ρ (atO f) (ma.bind fun a => (intM (va a)).bind fun i => .ok i) (fun i => some i) fun _ => ρ1 := eo_at ha fun _ _ => ⟨rfl, rfl⟩
theorem es_slc0 (ho : ∀ x lo hi s, cutF x lo hi = some s → ∃ d, s = foS d) {fa : DnD} {fl fh : DnO} {va : A → D} {vb : A → B → Option Int} {vc : A → B → C → Option Int}
    (ha : ED ρ fa ma va fun _ => ρ1) (hb : ∀ a, ED ρ1 fl (mb a) (vb a) fun _ => ρ2) (hc : ∀ a b, ED ρ2 fh (mc a b) (vc a b) fun _ => ρ3) :
    ES ρ (slcC fa fl fh) .fo (ma.bind fun a => (mb a).bind fun b => (mc a b).bind fun c => (liftS (cutF (va a) (vb a b) (vc a b c))).bind fun d => .ok d) (fun d => d) fun _ => ρ3 :=
  es_slc (ρ2 := fun _ _ => ρ2) (ρ3 := fun _ _ _ => ρ3) ho ha hb hc fun _ _ _ _ => ⟨rfl, rfl⟩
theorem ed_join0 {fa fb : DnD} {va : A → D} {vb : A → B → D} (ha : ED ρ fa ma va fun _ => ρ1) (hb : ∀ a, ED ρ1 fb (mb a) (vb a) fun _ => ρ2) :
    ED ρ (joinC fa fb) (ma.bind fun a => (isStr (va a)).bind fun _ => (mb a).bind fun b => (liftO (joinD (va a) (vb a b))).bind fun d => .ok d) (fun d => d) fun _ => ρ2 := ed_join (ρ2 := fun _ _ => ρ2) ha hb fun _ _ _ => ⟨rfl, rfl⟩
theorem es_call0 {φ : Fd} {mf : List D → M D} (hf : ∀ ds, Fr (mf ds) (φ ds)) {fs : DnL} {va : A → List D} (ha : ED ρ fs ma va fun _ => ρ1) :
    ES ρ (callC φ fs) .va (ma.bind fun a => (mf (va a)).bind fun d => .ok d) (fun d => d) fun _ => ρ1 := es_call hf ha fun _ _ => ⟨rfl, rfl⟩
theorem ei_seq0 {f : DnD} {va : A → D} (ha : ED ρ f ma va fun _ => ρ1) :
    ED ρ (seqI f) (ma.bind fun a => (itM (va a)).bind fun l => .ok l) (fun d => d) fun _ => ρ1 := ei_seq ha fun _ _ => ⟨rfl, rfl⟩
theorem ei_rng10 {f : DnD} {va : A → D} (ha : ED ρ f ma va fun _ => ρ1) :
    ED ρ (rng1I f) (ma.bind fun a => (rng1 (va a)).bind fun l => .ok l) (fun d => d) fun _ => ρ1 := ei_rng1 ha fun _ _ => ⟨rfl, rfl⟩
theorem ei_rng20 {fa fb : DnD} {va : A → D} {vb : A → B → D} (ha : ED ρ fa ma va fun _ => ρ1) (hb : ∀ a, ED ρ1 fb (mb a) (vb a) fun _ => ρ2) :
    ED ρ (rng2I fa fb) (ma.bind fun a => (mb a).bind fun b => (rng2 (va a) (vb a b)).bind fun l => .ok l) (fun d => d) fun _ => ρ2 := ei_rng2 (ρ2 := fun _ _ => ρ2) ha hb fun _ _ _ => ⟨rfl, rfl⟩
end
set_option Elab.async false
set_option linter.all false
set_option maxRecDepth 100000
open PySem L2

/-! ### readings, run head first -/
def kopB (o : Option Bool) (g : Gam) (k : Bool → Gam → R) : R := match o with
  | some s => k s g
  | none => .err
def kopO (o : Option Int) (g : Gam) (k : Int → Gam → R) : R := match o with
  | some s => k s g
  | none => .err
def kopL (o : Option (List D)) (g : Gam) (k : List D → Gam → R) : R := match o with
  | some s => k s g
  | none => .err
/-- a call's answer -/
def okR (r : Rs) (g : Gam) (k : KS) : R := match r with
  | .ok s [] => k s g
  | .exc c => .exc c g
  | _ => .err
def okR1 (r : Rs) (k : Sl → D → R) : R := match r with
  | .ok s [d] => k s d
  | _ => .err
def mutK (o : Option (D × List D)) (k : D → List D → R) : R := match o with
  | some (d, ds) => k d ds
  | none => .err
def bodyR (fg : DnG) (s1 : DnT) (d : D) (g : Gam) : R := fg d g fun g' => s1 g' .nx
def bodyW (s1 : DnT) (g : Gam) : R := s1 g .nx
def intO : D → Option Int
  | .int i => some i
  | _ => none
section
variable {α : Type} {g : Gam} {i j n : Nat} {d e : D} {ds es : List D} {f fa fb fd : DnD} {ff : DnS} {fs : DnL} {ft t1 t2 : DnB} {s1 s2 : DnT} {fl fh : DnO} {fg : DnG} {fgs : DnGs} {k : KD} {kS : KS} {kB : Bool → Gam → R} {kL : List D → Gam → R} {kT : Gam → R} {kO : Option Int → Gam → R}
@[simp ↓] theorem e_conC  : conC d g k = k d g := rfl
@[simp ↓] theorem e_fz  : fz ff g k = ff g (kfz k) := rfl
@[simp ↓] theorem e_kfz_sh  : kfz k (.sh d) g = k d g := rfl
@[simp ↓] theorem e_kfz_ow  : kfz k (.ow d) g = k d g := rfl
@[simp ↓] theorem e_shF  : shF f g kS = f g fun d g' => kS (.sh d) g' := rfl
@[simp ↓] theorem e_binF {op : D → D → Option Sl} : binF op fa fb g kS = fa g fun x g1 => fb g1 fun y g2 => kop (op x y) g2 kS := rfl
@[simp ↓] theorem e_binD {op : D → D → Option D} : binD op fa fb g k = fa g fun x g1 => fb g1 fun y g2 => kopD (op x y) g2 k := rfl
@[simp ↓] theorem e_kop {s : Sl} : kop (some s) g kS = kS s g := rfl
@[simp ↓] theorem e_kopD  : kopD (some d) g k = k d g := rfl
@[simp ↓] theorem e_kopB {b : Bool} : kopB (some b) g kB = kB b g := rfl
@[simp ↓] theorem e_binB {op : D → D → Option Bool} : binB op fa fb g kB = fa g fun x g1 => fb g1 fun y g2 => kopB (op x y) g2 kB := rfl
@[simp ↓] theorem e_unD {op : D → Option D} : unD op fa g k = fa g fun x g1 => kopD (op x) g1 k := rfl
@[simp ↓] theorem e_unF {op : D → Option Sl} : unF op fa g kS = fa g fun x g1 => kop (op x) g1 kS := rfl
@[simp ↓] theorem e_truB  : truB fa g kB = fa g fun x g1 => kopB (truD x) g1 kB := rfl
@[simp ↓] theorem e_notB  : notB ft g kB = ft g fun b g' => kB (!b) g' := rfl
@[simp ↓] theorem e_andB  : andB t1 t2 g kB = t1 g fun b g1 => if b = true then t2 g1 kB else kB false g1 := rfl
@[simp ↓] theorem e_orB  : orB t1 t2 g kB = t1 g fun b g1 => if b = true then kB true g1 else t2 g1 kB := rfl
@[simp ↓] theorem e_ifC {a b : Gam → (α → Gam → R) → R} {ka : α → Gam → R} : ifC ft a b g ka = ft g fun x g1 => if x = true then a g1 ka else b g1 ka := rfl
@[simp ↓] theorem e_nilC  : nilC g kL = kL [] g := rfl
@[simp ↓] theorem e_consC  : consC fa fs g kL = fa g fun x g1 => fs g1 fun xs g2 => kL (x :: xs) g2 := rfl
@[simp ↓] theorem e_tupC  : tupC fs g k = fs g fun ds g' => k (.tuple ds) g' := rfl
@[simp ↓] theorem e_lstC  : lstC fs g kS = fs g fun ds g' => kS (.ow (.list ds)) g' := rfl
@[simp ↓] theorem e_dctC  : dctC g kS = kS (.ow (.dict [])) g := rfl
@[simp ↓] theorem e_opsF {op : List D → Option Sl} : opsF op fs g kS = fs g fun ds g' => kop (op ds) g' kS := rfl
@[simp ↓] theorem e_opsD {op : List D → Option D} : opsD op fs g k = fs g fun ds g' => kopD (op ds) g' k := rfl
@[simp ↓] theorem e_isiC {Ts : List String} : isiC Ts f g k = f g fun d g' => k (.bool (instAny Ts d)) g' := rfl
@[simp ↓] theorem e_noO  : noO g kO = kO none g := rfl
@[simp ↓] theorem e_slcC  : slcC fa fl fh g kS = fa g fun x g1 => fl g1 fun lo g2 => fh g2 fun hi g3 => kop (cutF x lo hi) g3 kS := rfl
@[simp ↓] theorem e_callC {φ : Fd} : callC φ fs g kS = fs g fun ds g' => okR (φ ds) g' kS := rfl
@[simp ↓] theorem e_okR {s : Sl} : okR (.ok s []) g kS = kS s g := rfl
@[simp ↓] theorem e_okR1 {s : Sl} {k1 : Sl → D → R} : okR1 (.ok s [d]) k1 = k1 s d := rfl
@[simp ↓] theorem e_mutK {k2 : D → List D → R} : mutK (some (d, ds)) k2 = k2 d ds := rfl
@[simp ↓] theorem e_seqT  : seqT s1 s2 g kT = s1 g fun g' => s2 g' kT := rfl
@[simp ↓] theorem e_skipT  : skipT g kT = kT g := rfl
@[simp ↓] theorem e_brkT  : brkT g kT = .brk g := rfl
@[simp ↓] theorem e_contT  : contT g kT = .ct g := rfl
@[simp ↓] theorem e_retT  : retT ff g kT = ff g fun s g' => .ret s g' := rfl
@[simp ↓] theorem e_retN  : retN g kT = .ret (.sh .none) g := rfl
@[simp ↓] theorem e_dropT {fx : Gam → (α → Gam → R) → R} : dropT fx g kT = fx g fun _ g' => kT g' := rfl
@[simp ↓] theorem e_iffT  : iffT ft s1 s2 g kT = ft g fun b g1 => if b = true then s1 g1 kT else s2 g1 kT := rfl
@[simp ↓] theorem e_errT  : errT g kT = .err := rfl
@[simp ↓] theorem e_asgT  : asgT i ff g kT = ff g fun s g' => stC i s g' kT := rfl
@[simp ↓] theorem e_bindT  : bindT f fg g kT = f g fun d g' => fg d g' kT := rfl
@[simp ↓] theorem e_nameG  : nameG i d g kT = stC i (.sh d) g kT := rfl
@[simp ↓] theorem e_nilG  : nilG [] g kT = kT g := rfl
@[simp ↓] theorem e_consG  : consG fg fgs (d :: ds) g kT = fg d g fun g' => fgs ds g' kT := rfl
@[simp ↓] theorem e_tupG  : tupG n fgs (.tuple ds) g kT = if ds.length = n then fgs ds g kT else .err := rfl
@[simp ↓] theorem e_subT {fe fi : DnD} : subT i fe fi g kT = fe g fun d g' => putC i fi d g' kT := rfl
@[simp ↓] theorem e_yesB  : yesB g kB = kB true g := rfl
@[simp ↓] theorem e_seqI  : seqI f g kL = f g fun d g' => kopL (itemsD d) g' kL := rfl
@[simp ↓] theorem e_kopL  : kopL (some ds) g kL = kL ds g := rfl
@[simp ↓] theorem e_forT {fi : DnL} : forT fi fg s1 g kT = fi g fun ds g1 => thenR (forR (bodyR fg s1) g1 ds g1) kT := rfl
@[simp ↓] theorem e_whileT  : whileT n ft s1 g kT = thenR (whileR ft (bodyW s1) g n g) kT := rfl
@[simp ↓] theorem e_bodyR  : bodyR fg s1 d g = fg d g fun g' => s1 g' .nx := rfl
@[simp ↓] theorem e_bodyW  : bodyW s1 g = s1 g .nx := rfl
@[simp ↓] theorem e_thenR_nx  : thenR (.nx g) kT = kT g := rfl
@[simp ↓] theorem e_thenR_ret {s : Sl} : thenR (.ret s g) kT = .ret s g := rfl
@[simp ↓] theorem e_fnD {rf : List Nat} : fnD n rf s1 ds = endR rf (s1 (startG rf 0 ds ++ List.replicate (n - ds.length) .no) fun g => .ret (.sh .none) g) := rfl
@[simp ↓] theorem e_turnC {fe : DnD} : turnC fg ft fe d g = fg d g fun g' => ft g' fun b g2 => if b = true then fe g2 fun y g3 => .va (.sh y) g3 else .nx g2 := rfl
theorem thenR_of {r : R} (h : r = .nx g) : thenR r kT = kT g := by rw [h]; rfl
theorem thenR_rt {r : R} {s : Sl} (h : r = .ret s g) : thenR r kT = .ret s g := by rw [h]; rfl
@[simp ↓] theorem e_notV : notV fa g k = fa g fun x g1 => kopB (truD x) g1 fun b g => k (.bool (!b)) g := by
  unfold notV kopB; rfl
@[simp ↓] theorem e_andV : andV fa fb g k = fa g fun x g1 => kopB (truD x) g1 fun b g1 => if b = true then fb g1 k else k x g1 := by
  unfold andV kopB; congr 1; funext x g1; split <;> first | rfl | simp_all
@[simp ↓] theorem e_orV : orV fa fb g k = fa g fun x g1 => kopB (truD x) g1 fun b g1 => if b = true then k x g1 else fb g1 k := by
  unfold orV kopB; congr 1; funext x g1; split <;> first | rfl | simp_all
@[simp ↓] theorem e_atO : atO f g kO = f g fun d g' => kopO (intO d) g' fun i g' => kO (some i) g' := by
  unfold atO kopO; congr 1; funext x g1; cases x <;> rfl
@[simp ↓] theorem e_kopO {k : Int → Gam → R} {i : Int} : kopO (intO (.int i)) g k = k i g := rfl
@[simp ↓] theorem e_chnB {o1 o2 : D → D → Option Bool} : chnB o1 o2 fa fb fd g kB = fa g fun x g1 => fb g1 fun y g2 => kopB (o1 x y) g2 fun b g2 => if b = true then fd g2 fun z g3 => kopB (o2 y z) g3 kB else kB false g2 := by
  unfold chnB; congr 1; funext x g1; congr 1; funext y g2
  cases o1 x y with
  | none => rfl
  | some b => cases b <;> rfl
def joinK (x : D) (g1 : Gam) (fb : DnD) (k : KD) : R := match x with
  | .str _ => fb g1 fun y g2 => kopD (joinD x y) g2 k
  | _ => .err
@[simp ↓] theorem e_joinC : joinC fa fb g k = fa g fun x g1 => joinK x g1 fb k := rfl
@[simp ↓] theorem e_joinK {z : Str} : joinK (.str z) g fb k = fb g fun y g2 => kopD (joinD (.str z) y) g2 k := rfl
def parK (i j : Nat) (ds : List D) (g : Gam) (k : Gam → R) : R := match ds with
  | [x, y] => stC i (.sh x) g fun g2 => stC j (.sh y) g2 k
  | _ => .err
@[simp ↓] theorem e_parT : parT i j fs g kT = fs g fun ds g' => parK i j ds g' kT := rfl
@[simp ↓] theorem e_parK : parK i j [d, e] g kT = stC i (.sh d) g fun g2 => stC j (.sh e) g2 kT := rfl
def rngK (d d' : D) (g : Gam) (k : List D → Gam → R) : R := match d, d' with
  | .int a, .int b => if rngOk a b = true then k (rngD a b) g else .err
  | _, _ => .err
@[simp ↓] theorem e_rng1I : rng1I f g kL = f g fun d g' => rngK (.int 0) d g' kL := by
  unfold rng1I rngK; congr 1; funext d g'; cases d <;> rfl
@[simp ↓] theorem e_rng2I : rng2I fa fb g kL = fa g fun d g1 => fb g1 fun d' g2 => rngK d d' g2 kL := rfl
@[simp ↓] theorem e_rngK {a b : Int} (h : rngOk a b = true) : rngK (.int a) (.int b) g kL = kL (rngD a b) g := by
  simp only [rngK, h, if_true]
def lcK (vs : List Nat) (f : D → Gam → R) (ds : List D) (g1 : Gam) (k : KS) : R := if okW vs g1 = true then (match compR f vs ds (wipeG g1 vs) [] with
  | some (out, g2) => k (.ow (.list out)) (restW vs g1 g2)
  | none => .err) else .err
@[simp ↓] theorem e_lcC {vs : List Nat} {fi : DnL} {fe : DnD} : lcC vs fi fg ft fe g kS = fi g fun ds g1 => lcK vs (turnC fg ft fe) ds g1 kS := rfl
theorem lcK_of {vs : List Nat} {f : D → Gam → R} {g2 g3 : Gam} {out : List D} (hw : okW vs g = true) (h : compR f vs ds (wipeG g vs) [] = some (out, g2)) (h3 : restW vs g g2 = g3) : lcK vs f ds g kS = kS (.ow (.list out)) g3 := by
  simp only [lcK, hw, h, h3, if_true]
-- data
@[simp ↓] theorem t_bool {b : Bool} : kopB (truD (.bool b)) g kB = kB b g := rfl
@[simp ↓] theorem t_none : kopB (truD .none) g kB = kB false g := rfl
@[simp ↓] theorem t_int {x : Int} : kopB (truD (.int x)) g kB = kB (x != 0) g := rfl
@[simp ↓] theorem t_list : kopB (truD (.list ds)) g kB = kB (!ds.isEmpty) g := rfl
@[simp ↓] theorem t_tuple : kopB (truD (.tuple ds)) g kB = kB (!ds.isEmpty) g := rfl
@[simp ↓] theorem t_str {z : Str} (h : z.length ≤ sizeLine) : kopB (truD (.str z)) g kB = kB ((z.length : Int) != 0) g := by
  simp only [truD, h, if_true]; rfl
section
variable {x y : Int}
@[simp ↓] theorem o_add : kop (addS (.int x) (.int y)) g kS = kS (.sh (.int (x + y))) g := rfl
@[simp ↓] theorem o_addT (h : ds.length + es.length ≤ sizeLine) : kop (addS (.tuple ds) (.tuple es)) g kS = kS (.sh (.tuple (ds ++ es))) g := by
  simp only [addS, h, if_true]; rfl
@[simp ↓] theorem o_addL (h : ds.length + es.length ≤ sizeLine) : kop (addS (.list ds) (.list es)) g kS = kS (.ow (.list (ds ++ es))) g := by
  simp only [addS, h, if_true]; rfl
@[simp ↓] theorem o_addZ {a b : Str} (h : a.length + b.length ≤ sizeLine) : kop (addS (.str a) (.str b)) g kS = kS (.sh (.str (a ++ b))) g := by
  simp only [addS, h, if_true]; rfl
@[simp ↓] theorem o_sub : kopD (subD (.int x) (.int y)) g k = k (.int (x - y)) g := rfl
@[simp ↓] theorem o_neg : kopD (negD (.int x)) g k = k (.int (-x)) g := rfl
theorem cMul_r (h : y.natAbs < 2 ^ 64) : cMul x y = true := by
  unfold cMul; rw [Bool.or_eq_true]; exact .inr (decide_eq_true (by omega))
theorem cMul_l (h : x.natAbs < 2 ^ 64) : cMul x y = true := by
  unfold cMul; rw [Bool.or_eq_true]; exact .inl (decide_eq_true (by omega))
theorem iiD_of {c : Int → Int → Bool} {f : Int → Int → Int} (h : c x y = true) : kopD (iiD c f (.int x) (.int y)) g k = k (.int (f x y)) g := by
  unfold iiD; simp only [h, if_true]; rfl
@[simp ↓] theorem o_mulr (h : y.natAbs < 2 ^ 64) : kopD (mulD (.int x) (.int y)) g k = k (.int (x * y)) g := iiD_of (cMul_r h)
@[simp ↓] theorem o_mull (h : x.natAbs < 2 ^ 64) : kopD (mulD (.int x) (.int y)) g k = k (.int (x * y)) g := iiD_of (cMul_l h)
@[simp ↓] theorem o_fdv (h : 0 < y) (h2 : y < 1073741824) : kopD (fdvD (.int x) (.int y)) g k = k (.int (x / y)) g := iiD_of (decide_eq_true ⟨h, h2⟩)
@[simp ↓] theorem o_mod (h : 0 < y) : kopD (modD (.int x) (.int y)) g k = k (.int (x % y)) g := iiD_of (decide_eq_true h)
@[simp ↓] theorem o_pow (h : 0 ≤ y ∧ y ≤ 1000 ∧ x.natAbs < 2 ^ 64) : kopD (powD (.int x) (.int y)) g k = k (.int (x ^ y.toNat)) g := iiD_of (decide_eq_true h)
@[simp ↓] theorem c_lt : kopB (ltB (.int x) (.int y)) g kB = kB (decide (x < y)) g := rfl
@[simp ↓] theorem c_le : kopB (leB (.int x) (.int y)) g kB = kB (decide (x ≤ y)) g := rfl
@[simp ↓] theorem c_gt : kopB (gtB (.int x) (.int y)) g kB = kB (decide (y < x)) g := rfl
@[simp ↓] theorem c_ge : kopB (geB (.int x) (.int y)) g kB = kB (decide (y ≤ x)) g := rfl
theorem cmpOk_int : cmpOk (.int x) = true := by unfold cmpOk SeqAt.shaped; simp [PyData.canLay0, PyData.depth]
theorem cmpOk_bool {b : Bool} : cmpOk (.bool b) = true := by unfold cmpOk SeqAt.shaped; simp [PyData.canLay0, PyData.depth]
theorem cmpOk_none : cmpOk .none = true := by unfold cmpOk SeqAt.shaped; simp [PyData.canLay0, PyData.depth]
theorem cmpOk_str {z : Str} : cmpOk (.str z) = PyData.strOk z := by unfold cmpOk SeqAt.shaped; simp [PyData.canLay0, PyData.depth]
theorem kopB_eq (h : cmpOk d = true) (h2 : cmpOk e = true) : kopB (eqB d e) g kB = kB (PyData.eqv d e) g := by
  unfold eqB; rw [h, h2]; rfl
theorem kopB_ne (h : cmpOk d = true) (h2 : cmpOk e = true) : kopB (neB d e) g kB = kB (!PyData.eqv d e) g := by
  unfold neB; rw [h, h2]; rfl
@[simp ↓ high] theorem c_eqI : kopB (eqB (.int x) (.int y)) g kB = kB (x == y) g := by
  rw [kopB_eq cmpOk_int cmpOk_int]; unfold PyData.eqv; rfl
@[simp ↓ high] theorem c_neI : kopB (neB (.int x) (.int y)) g kB = kB (!(x == y)) g := by
  rw [kopB_ne cmpOk_int cmpOk_int]; unfold PyData.eqv; rfl
end
@[simp ↓] theorem c_eq (h : cmpOk d = true) (h2 : cmpOk e = true) : kopB (eqB d e) g kB = kB (PyData.eqv d e) g := kopB_eq h h2
@[simp ↓] theorem c_ne (h : cmpOk d = true) (h2 : cmpOk e = true) : kopB (neB d e) g kB = kB (!PyData.eqv d e) g := kopB_ne h h2
@[simp ↓] theorem c_isN : kopB (isNoneB d .none) g kB = kB (nonB d) g := by cases d <;> rfl
@[simp ↓] theorem c_noN : kopB (noNoneB d .none) g kB = kB (!nonB d) g := by cases d <;> rfl
@[simp ↓] theorem c_isB {a b : Bool} : kopB (isBB (.bool a) (.bool b)) g kB = kB (decide (a = b)) g := rfl
@[simp ↓] theorem c_noB {a b : Bool} : kopB (noBB (.bool a) (.bool b)) g kB = kB (!decide (a = b)) g := rfl
@[simp ↓] theorem c_inL (h : cmpOk d = true) (h2 : cmpOk (.list ds) = true) : kopB (inB d (.list ds)) g kB = kB (ds.any fun z => PyData.eqv z d) g := by
  unfold inB; simp only [h, h2]; rfl
@[simp ↓] theorem c_inT (h : cmpOk d = true) (h2 : cmpOk (.tuple ds) = true) : kopB (inB d (.tuple ds)) g kB = kB (ds.any fun z => PyData.eqv z d) g := by
  unfold inB; simp only [h, h2]; rfl
@[simp ↓] theorem c_niL (h : cmpOk d = true) (h2 : cmpOk (.list ds) = true) : kopB (niB d (.list ds)) g kB = kB (!ds.any fun z => PyData.eqv z d) g := by
  unfold niB inB; simp only [h, h2]; rfl
@[simp ↓] theorem c_niT (h : cmpOk d = true) (h2 : cmpOk (.tuple ds) = true) : kopB (niB d (.tuple ds)) g kB = kB (!ds.any fun z => PyData.eqv z d) g := by
  unfold niB inB; simp only [h, h2]; rfl
@[simp ↓] theorem e_opBD {op : D → D → Option Bool} : kopD (opBD op d e) g k = kopB (op d e) g fun b g => k (.bool b) g := by
  unfold opBD; cases op d e <;> rfl
@[simp ↓] theorem o_lenL : kopD (lenD [.list ds]) g k = k (.int ds.length) g := rfl
@[simp ↓] theorem o_lenT : kopD (lenD [.tuple ds]) g k = k (.int ds.length) g := rfl
@[simp ↓] theorem o_lenS {z : Str} (h : z.length ≤ sizeLine) : kopD (lenD [.str z]) g k = k (.int z.length) g := by
  simp only [lenD, h, if_true]; rfl
@[simp ↓] theorem o_int {x : Int} : kopD (intD [.int x]) g k = k (.int x) g := rfl
@[simp ↓] theorem o_intB {b : Bool} : kopD (intD [.bool b]) g k = k (.int (if b then 1 else 0)) g := rfl
@[simp ↓] theorem o_tupL : kopD (tupX [.list ds]) g k = k (.tuple ds) g := rfl
@[simp ↓] theorem o_tupT : kopD (tupX [.tuple ds]) g k = k (.tuple ds) g := rfl
@[simp ↓] theorem o_tupS {z : Str} (h : z.length ≤ sizeLine) : kopD (tupX [.str z]) g k = k (.tuple (signs z)) g := by
  unfold tupX; simp only [h, if_true]; rfl
@[simp ↓] theorem o_lstL : kop (listF [.list ds]) g kS = kS (.ow (.list ds)) g := rfl
@[simp ↓] theorem o_lstT : kop (listF [.tuple ds]) g kS = kS (.ow (.list ds)) g := rfl
@[simp ↓] theorem o_strI {x : Int} (h : x.natAbs.log2 < 1920) : kopD (strD [.int x]) g k = k (.str (toString x)) g := by
  unfold strD; simp only [h, if_true]; rfl
@[simp ↓] theorem o_strN : kopD (strD [.none]) g k = k (.str "None") g := rfl
@[simp ↓] theorem o_cutL {lo hi : Option Int} : kop (cutF (.list ds) lo hi) g kS = kS (.ow (.list (cutL ds lo hi))) g := rfl
@[simp ↓] theorem o_cutT {lo hi : Option Int} : kop (cutF (.tuple ds) lo hi) g kS = kS (.sh (.tuple (cutL ds lo hi))) g := rfl
@[simp ↓] theorem o_cutS {z : Str} {lo hi : Option Int} (h : z.length ≤ sizeLine) : kop (cutF (.str z) lo hi) g kS = kS (.sh (.str (cutS z lo hi))) g := by
  unfold cutF; simp only [h, if_true]; rfl
@[simp ↓] theorem o_revL : kop (revF (.list ds)) g kS = kS (.ow (.list ds.reverse)) g := rfl
@[simp ↓] theorem o_revT : kop (revF (.tuple ds)) g kS = kS (.sh (.tuple ds.reverse)) g := rfl
@[simp ↓] theorem o_revS {z : Str} (h : z.length ≤ sizeLine) : kop (revF (.str z)) g kS = kS (.sh (.str (revS z))) g := by
  unfold revF; simp only [h, if_true]; rfl
@[simp ↓] theorem o_ixL {x : Int} : kopD (ixD (.list ds) (.int x)) g k = kopD (atI ds x) g k := rfl
@[simp ↓] theorem o_ixT {x : Int} : kopD (ixD (.tuple ds) (.int x)) g k = kopD (atI ds x) g k := rfl
@[simp ↓] theorem i_list : kopL (itemsD (.list ds)) g kL = kL ds g := rfl
@[simp ↓] theorem i_tuple : kopL (itemsD (.tuple ds)) g kL = kL ds g := rfl
@[simp ↓] theorem i_str {z : Str} (h : z.length ≤ sizeLine) : kopL (itemsD (.str z)) g kL = kL (signs z) g := by
  unfold itemsD; simp only [h, if_true]; rfl
theorem zat_of {x : Int} (h : atI ds x = some d) : kopD (atI ds x) g k = k d g := by rw [h]; rfl
theorem zatI_nat (x : Int) (h : 0 ≤ x) : atI ds x = ds[x.toNat]? := by
  unfold atI ixN
  by_cases h2 : x < ds.length
  · simp only [h, h2, if_true]; rfl
  · have : ds.length ≤ x.toNat := by omega
    rw [List.getElem?_eq_none this]
    simp only [h, h2, if_true, if_false]; rfl
theorem atI_end : atI (ds ++ [d]) (-1) = some d := by
  unfold atI ixN
  have h1 : ¬ (0 : Int) ≤ -1 := by omega
  have h2 : -((ds ++ [d]).length : Int) ≤ -1 := by rw [List.length_append, List.length_singleton]; omega
  simp only [h1, h2, if_true, if_false]
  have e : ((-1 : Int) + ((ds ++ [d]).length : Int)).toNat = ds.length := by rw [List.length_append, List.length_singleton]; omega
  show (ds ++ [d])[((-1 : Int) + ((ds ++ [d]).length : Int)).toNat]? = _
  rw [e]; simp
@[simp ↓] theorem k_at_end : kopD (atI (ds ++ [d]) (-1)) g k = k d g := zat_of atI_end
@[simp ↓] theorem k_at_1_0 {a0 : D} : kopD (atI [a0] 0) g k = k a0 g := rfl
@[simp ↓] theorem k_at_2_0 {a0 a1 : D} : kopD (atI [a0, a1] 0) g k = k a0 g := rfl
@[simp ↓] theorem k_at_2_1 {a0 a1 : D} : kopD (atI [a0, a1] 1) g k = k a1 g := rfl
@[simp ↓] theorem k_at_3_0 {a0 a1 a2 : D} : kopD (atI [a0, a1, a2] 0) g k = k a0 g := rfl
@[simp ↓] theorem k_at_3_1 {a0 a1 a2 : D} : kopD (atI [a0, a1, a2] 1) g k = k a1 g := rfl
@[simp ↓] theorem k_at_3_2 {a0 a1 a2 : D} : kopD (atI [a0, a1, a2] 2) g k = k a2 g := rfl
@[simp ↓] theorem k_at_4_0 {a0 a1 a2 a3 : D} : kopD (atI [a0, a1, a2, a3] 0) g k = k a0 g := rfl
@[simp ↓] theorem k_at_4_1 {a0 a1 a2 a3 : D} : kopD (atI [a0, a1, a2, a3] 1) g k = k a1 g := rfl
@[simp ↓] theorem k_at_4_2 {a0 a1 a2 a3 : D} : kopD (atI [a0, a1, a2, a3] 2) g k = k a2 g := rfl
@[simp ↓] theorem k_at_4_3 {a0 a1 a2 a3 : D} : kopD (atI [a0, a1, a2, a3] 3) g k = k a3 g := rfl
@[simp ↓] theorem k_at_5_0 {a0 a1 a2 a3 a4 : D} : kopD (atI [a0, a1, a2, a3, a4] 0) g k = k a0 g := rfl
@[simp ↓] theorem k_at_5_1 {a0 a1 a2 a3 a4 : D} : kopD (atI [a0, a1, a2, a3, a4] 1) g k = k a1 g := rfl
@[simp ↓] theorem k_at_5_2 {a0 a1 a2 a3 a4 : D} : kopD (atI [a0, a1, a2, a3, a4] 2) g k = k a2 g := rfl
@[simp ↓] theorem k_at_5_3 {a0 a1 a2 a3 a4 : D} : kopD (atI [a0, a1, a2, a3, a4] 3) g k = k a3 g := rfl
@[simp ↓] theorem k_at_5_4 {a0 a1 a2 a3 a4 : D} : kopD (atI [a0, a1, a2, a3, a4] 4) g k = k a4 g := rfl
@[simp ↓] theorem k_at_6_0 {a0 a1 a2 a3 a4 a5 : D} : kopD (atI [a0, a1, a2, a3, a4, a5] 0) g k = k a0 g := rfl
@[simp ↓] theorem k_at_6_1 {a0 a1 a2 a3 a4 a5 : D} : kopD (atI [a0, a1, a2, a3, a4, a5] 1) g k = k a1 g := rfl
@[simp ↓] theorem k_at_6_2 {a0 a1 a2 a3 a4 a5 : D} : kopD (atI [a0, a1, a2, a3, a4, a5] 2) g k = k a2 g := rfl
@[simp ↓] theorem k_at_6_3 {a0 a1 a2 a3 a4 a5 : D} : kopD (atI [a0, a1, a2, a3, a4, a5] 3) g k = k a3 g := rfl
@[simp ↓] theorem k_at_6_4 {a0 a1 a2 a3 a4 a5 : D} : kopD (atI [a0, a1, a2, a3, a4, a5] 4) g k = k a4 g := rfl
@[simp ↓] theorem k_at_6_5 {a0 a1 a2 a3 a4 a5 : D} : kopD (atI [a0, a1, a2, a3, a4, a5] 5) g k = k a5 g := rfl
end
section
variable {g : Gam} {d e : D} {s : Sl} {k : KD} {kS : KS} {kT : Gam → R} {fs : DnL} {fi fe : DnD}
@[simp ↓] theorem b0sh  : borC 0 (.sh d :: g) k = k d (.sh d :: g) := rfl
@[simp ↓] theorem b0ow  : borC 0 (.ow d :: g) k = k d (.ow d :: g) := rfl
@[simp ↓] theorem b0rf  : borC 0 (.rf d :: g) k = k d (.rf d :: g) := rfl
@[simp ↓] theorem v0sh  : varC 0 (.sh d :: g) k = k d (.sh d :: g) := rfl
@[simp ↓] theorem v0ow  : varC 0 (.ow d :: g) k = k d (.sh d :: g) := rfl
@[simp ↓] theorem s0nosh  : stC 0 (.sh d) (.no :: g) kT = kT (.sh d :: g) := rfl
@[simp ↓] theorem s0noow  : stC 0 (.ow d) (.no :: g) kT = kT (.ow d :: g) := rfl
@[simp ↓] theorem s0shsh  : stC 0 (.sh d) (.sh e :: g) kT = kT (.sh d :: g) := rfl
@[simp ↓] theorem s0show  : stC 0 (.ow d) (.sh e :: g) kT = kT (.ow d :: g) := rfl
@[simp ↓] theorem s0owsh  : stC 0 (.sh d) (.ow e :: g) kT = kT (.sh d :: g) := rfl
@[simp ↓] theorem s0owow  : stC 0 (.ow d) (.ow e :: g) kT = kT (.ow d :: g) := rfl
@[simp ↓] theorem rv0sh  : retV 0 (.sh d :: g) kT = .ret (.sh d) (.sh d :: g) := rfl
@[simp ↓] theorem rv0ow  : retV 0 (.ow d :: g) kT = .ret (.ow d) (.no :: g) := rfl
@[simp ↓] theorem b1sh {s0 : Sl} : borC 1 (s0 :: .sh d :: g) k = k d (s0 :: .sh d :: g) := rfl
@[simp ↓] theorem b1ow {s0 : Sl} : borC 1 (s0 :: .ow d :: g) k = k d (s0 :: .ow d :: g) := rfl
@[simp ↓] theorem b1rf {s0 : Sl} : borC 1 (s0 :: .rf d :: g) k = k d (s0 :: .rf d :: g) := rfl
@[simp ↓] theorem v1sh {s0 : Sl} : varC 1 (s0 :: .sh d :: g) k = k d (s0 :: .sh d :: g) := rfl
@[simp ↓] theorem v1ow {s0 : Sl} : varC 1 (s0 :: .ow d :: g) k = k d (s0 :: .sh d :: g) := rfl
@[simp ↓] theorem s1nosh {s0 : Sl} : stC 1 (.sh d) (s0 :: .no :: g) kT = kT (s0 :: .sh d :: g) := rfl
@[simp ↓] theorem s1noow {s0 : Sl} : stC 1 (.ow d) (s0 :: .no :: g) kT = kT (s0 :: .ow d :: g) := rfl
@[simp ↓] theorem s1shsh {s0 : Sl} : stC 1 (.sh d) (s0 :: .sh e :: g) kT = kT (s0 :: .sh d :: g) := rfl
@[simp ↓] theorem s1show {s0 : Sl} : stC 1 (.ow d) (s0 :: .sh e :: g) kT = kT (s0 :: .ow d :: g) := rfl
@[simp ↓] theorem s1owsh {s0 : Sl} : stC 1 (.sh d) (s0 :: .ow e :: g) kT = kT (s0 :: .sh d :: g) := rfl
@[simp ↓] theorem s1owow {s0 : Sl} : stC 1 (.ow d) (s0 :: .ow e :: g) kT = kT (s0 :: .ow d :: g) := rfl
@[simp ↓] theorem rv1sh {s0 : Sl} : retV 1 (s0 :: .sh d :: g) kT = .ret (.sh d) (s0 :: .sh d :: g) := rfl
@[simp ↓] theorem rv1ow {s0 : Sl} : retV 1 (s0 :: .ow d :: g) kT = .ret (.ow d) (s0 :: .no :: g) := rfl
@[simp ↓] theorem b2sh {s0 s1 : Sl} : borC 2 (s0 :: s1 :: .sh d :: g) k = k d (s0 :: s1 :: .sh d :: g) := rfl
@[simp ↓] theorem b2ow {s0 s1 : Sl} : borC 2 (s0 :: s1 :: .ow d :: g) k = k d (s0 :: s1 :: .ow d :: g) := rfl
@[simp ↓] theorem b2rf {s0 s1 : Sl} : borC 2 (s0 :: s1 :: .rf d :: g) k = k d (s0 :: s1 :: .rf d :: g) := rfl
@[simp ↓] theorem v2sh {s0 s1 : Sl} : varC 2 (s0 :: s1 :: .sh d :: g) k = k d (s0 :: s1 :: .sh d :: g) := rfl
@[simp ↓] theorem v2ow {s0 s1 : Sl} : varC 2 (s0 :: s1 :: .ow d :: g) k = k d (s0 :: s1 :: .sh d :: g) := rfl
@[simp ↓] theorem s2nosh {s0 s1 : Sl} : stC 2 (.sh d) (s0 :: s1 :: .no :: g) kT = kT (s0 :: s1 :: .sh d :: g) := rfl
@[simp ↓] theorem s2noow {s0 s1 : Sl} : stC 2 (.ow d) (s0 :: s1 :: .no :: g) kT = kT (s0 :: s1 :: .ow d :: g) := rfl
@[simp ↓] theorem s2shsh {s0 s1 : Sl} : stC 2 (.sh d) (s0 :: s1 :: .sh e :: g) kT = kT (s0 :: s1 :: .sh d :: g) := rfl
@[simp ↓] theorem s2show {s0 s1 : Sl} : stC 2 (.ow d) (s0 :: s1 :: .sh e :: g) kT = kT (s0 :: s1 :: .ow d :: g) := rfl
@[simp ↓] theorem s2owsh {s0 s1 : Sl} : stC 2 (.sh d) (s0 :: s1 :: .ow e :: g) kT = kT (s0 :: s1 :: .sh d :: g) := rfl
@[simp ↓] theorem s2owow {s0 s1 : Sl} : stC 2 (.ow d) (s0 :: s1 :: .ow e :: g) kT = kT (s0 :: s1 :: .ow d :: g) := rfl
@[simp ↓] theorem rv2sh {s0 s1 : Sl} : retV 2 (s0 :: s1 :: .sh d :: g) kT = .ret (.sh d) (s0 :: s1 :: .sh d :: g) := rfl
@[simp ↓] theorem rv2ow {s0 s1 : Sl} : retV 2 (s0 :: s1 :: .ow d :: g) kT = .ret (.ow d) (s0 :: s1 :: .no :: g) := rfl
@[simp ↓] theorem b3sh {s0 s1 s2 : Sl} : borC 3 (s0 :: s1 :: s2 :: .sh d :: g) k = k d (s0 :: s1 :: s2 :: .sh d :: g) := rfl
@[simp ↓] theorem b3ow {s0 s1 s2 : Sl} : borC 3 (s0 :: s1 :: s2 :: .ow d :: g) k = k d (s0 :: s1 :: s2 :: .ow d :: g) := rfl
@[simp ↓] theorem b3rf {s0 s1 s2 : Sl} : borC 3 (s0 :: s1 :: s2 :: .rf d :: g) k = k d (s0 :: s1 :: s2 :: .rf d :: g) := rfl
@[simp ↓] theorem v3sh {s0 s1 s2 : Sl} : varC 3 (s0 :: s1 :: s2 :: .sh d :: g) k = k d (s0 :: s1 :: s2 :: .sh d :: g) := rfl
@[simp ↓] theorem v3ow {s0 s1 s2 : Sl} : varC 3 (s0 :: s1 :: s2 :: .ow d :: g) k = k d (s0 :: s1 :: s2 :: .sh d :: g) := rfl
@[simp ↓] theorem s3nosh {s0 s1 s2 : Sl} : stC 3 (.sh d) (s0 :: s1 :: s2 :: .no :: g) kT = kT (s0 :: s1 :: s2 :: .sh d :: g) := rfl
@[simp ↓] theorem s3noow {s0 s1 s2 : Sl} : stC 3 (.ow d) (s0 :: s1 :: s2 :: .no :: g) kT = kT (s0 :: s1 :: s2 :: .ow d :: g) := rfl
@[simp ↓] theorem s3shsh {s0 s1 s2 : Sl} : stC 3 (.sh d) (s0 :: s1 :: s2 :: .sh e :: g) kT = kT (s0 :: s1 :: s2 :: .sh d :: g) := rfl
@[simp ↓] theorem s3show {s0 s1 s2 : Sl} : stC 3 (.ow d) (s0 :: s1 :: s2 :: .sh e :: g) kT = kT (s0 :: s1 :: s2 :: .ow d :: g) := rfl
@[simp ↓] theorem s3owsh {s0 s1 s2 : Sl} : stC 3 (.sh d) (s0 :: s1 :: s2 :: .ow e :: g) kT = kT (s0 :: s1 :: s2 :: .sh d :: g) := rfl
@[simp ↓] theorem s3owow {s0 s1 s2 : Sl} : stC 3 (.ow d) (s0 :: s1 :: s2 :: .ow e :: g) kT = kT (s0 :: s1 :: s2 :: .ow d :: g) := rfl
@[simp ↓] theorem rv3sh {s0 s1 s2 : Sl} : retV 3 (s0 :: s1 :: s2 :: .sh d :: g) kT = .ret (.sh d) (s0 :: s1 :: s2 :: .sh d :: g) := rfl
@[simp ↓] theorem rv3ow {s0 s1 s2 : Sl} : retV 3 (s0 :: s1 :: s2 :: .ow d :: g) kT = .ret (.ow d) (s0 :: s1 :: s2 :: .no :: g) := rfl
@[simp ↓] theorem b4sh {s0 s1 s2 s3 : Sl} : borC 4 (s0 :: s1 :: s2 :: s3 :: .sh d :: g) k = k d (s0 :: s1 :: s2 :: s3 :: .sh d :: g) := rfl
@[simp ↓] theorem b4ow {s0 s1 s2 s3 : Sl} : borC 4 (s0 :: s1 :: s2 :: s3 :: .ow d :: g) k = k d (s0 :: s1 :: s2 :: s3 :: .ow d :: g) := rfl
@[simp ↓] theorem b4rf {s0 s1 s2 s3 : Sl} : borC 4 (s0 :: s1 :: s2 :: s3 :: .rf d :: g) k = k d (s0 :: s1 :: s2 :: s3 :: .rf d :: g) := rfl
@[simp ↓] theorem v4sh {s0 s1 s2 s3 : Sl} : varC 4 (s0 :: s1 :: s2 :: s3 :: .sh d :: g) k = k d (s0 :: s1 :: s2 :: s3 :: .sh d :: g) := rfl
@[simp ↓] theorem v4ow {s0 s1 s2 s3 : Sl} : varC 4 (s0 :: s1 :: s2 :: s3 :: .ow d :: g) k = k d (s0 :: s1 :: s2 :: s3 :: .sh d :: g) := rfl
@[simp ↓] theorem s4nosh {s0 s1 s2 s3 : Sl} : stC 4 (.sh d) (s0 :: s1 :: s2 :: s3 :: .no :: g) kT = kT (s0 :: s1 :: s2 :: s3 :: .sh d :: g) := rfl
@[simp ↓] theorem s4noow {s0 s1 s2 s3 : Sl} : stC 4 (.ow d) (s0 :: s1 :: s2 :: s3 :: .no :: g) kT = kT (s0 :: s1 :: s2 :: s3 :: .ow d :: g) := rfl
@[simp ↓] theorem s4shsh {s0 s1 s2 s3 : Sl} : stC 4 (.sh d) (s0 :: s1 :: s2 :: s3 :: .sh e :: g) kT = kT (s0 :: s1 :: s2 :: s3 :: .sh d :: g) := rfl
@[simp ↓] theorem s4show {s0 s1 s2 s3 : Sl} : stC 4 (.ow d) (s0 :: s1 :: s2 :: s3 :: .sh e :: g) kT = kT (s0 :: s1 :: s2 :: s3 :: .ow d :: g) := rfl
@[simp ↓] theorem s4owsh {s0 s1 s2 s3 : Sl} : stC 4 (.sh d) (s0 :: s1 :: s2 :: s3 :: .ow e :: g) kT = kT (s0 :: s1 :: s2 :: s3 :: .sh d :: g) := rfl
@[simp ↓] theorem s4owow {s0 s1 s2 s3 : Sl} : stC 4 (.ow d) (s0 :: s1 :: s2 :: s3 :: .ow e :: g) kT = kT (s0 :: s1 :: s2 :: s3 :: .ow d :: g) := rfl
@[simp ↓] theorem rv4sh {s0 s1 s2 s3 : Sl} : retV 4 (s0 :: s1 :: s2 :: s3 :: .sh d :: g) kT = .ret (.sh d) (s0 :: s1 :: s2 :: s3 :: .sh d :: g) := rfl
@[simp ↓] theorem rv4ow {s0 s1 s2 s3 : Sl} : retV 4 (s0 :: s1 :: s2 :: s3 :: .ow d :: g) kT = .ret (.ow d) (s0 :: s1 :: s2 :: s3 :: .no :: g) := rfl
@[simp ↓] theorem b5sh {s0 s1 s2 s3 s4 : Sl} : borC 5 (s0 :: s1 :: s2 :: s3 :: s4 :: .sh d :: g) k = k d (s0 :: s1 :: s2 :: s3 :: s4 :: .sh d :: g) := rfl
@[simp ↓] theorem b5ow {s0 s1 s2 s3 s4 : Sl} : borC 5 (s0 :: s1 :: s2 :: s3 :: s4 :: .ow d :: g) k = k d (s0 :: s1 :: s2 :: s3 :: s4 :: .ow d :: g) := rfl
@[simp ↓] theorem b5rf {s0 s1 s2 s3 s4 : Sl} : borC 5 (s0 :: s1 :: s2 :: s3 :: s4 :: .rf d :: g) k = k d (s0 :: s1 :: s2 :: s3 :: s4 :: .rf d :: g) := rfl
@[simp ↓] theorem v5sh {s0 s1 s2 s3 s4 : Sl} : varC 5 (s0 :: s1 :: s2 :: s3 :: s4 :: .sh d :: g) k = k d (s0 :: s1 :: s2 :: s3 :: s4 :: .sh d :: g) := rfl
@[simp ↓] theorem v5ow {s0 s1 s2 s3 s4 : Sl} : varC 5 (s0 :: s1 :: s2 :: s3 :: s4 :: .ow d :: g) k = k d (s0 :: s1 :: s2 :: s3 :: s4 :: .sh d :: g) := rfl
@[simp ↓] theorem s5nosh {s0 s1 s2 s3 s4 : Sl} : stC 5 (.sh d) (s0 :: s1 :: s2 :: s3 :: s4 :: .no :: g) kT = kT (s0 :: s1 :: s2 :: s3 :: s4 :: .sh d :: g) := rfl
@[simp ↓] theorem s5noow {s0 s1 s2 s3 s4 : Sl} : stC 5 (.ow d) (s0 :: s1 :: s2 :: s3 :: s4 :: .no :: g) kT = kT (s0 :: s1 :: s2 :: s3 :: s4 :: .ow d :: g) := rfl
@[simp ↓] theorem s5shsh {s0 s1 s2 s3 s4 : Sl} : stC 5 (.sh d) (s0 :: s1 :: s2 :: s3 :: s4 :: .sh e :: g) kT = kT (s0 :: s1 :: s2 :: s3 :: s4 :: .sh d :: g) := rfl
@[simp ↓] theorem s5show {s0 s1 s2 s3 s4 : Sl} : stC 5 (.ow d) (s0 :: s1 :: s2 :: s3 :: s4 :: .sh e :: g) kT = kT (s0 :: s1 :: s2 :: s3 :: s4 :: .ow d :: g) := rfl
@[simp ↓] theorem s5owsh {s0 s1 s2 s3 s4 : Sl} : stC 5 (.sh d) (s0 :: s1 :: s2 :: s3 :: s4 :: .ow e :: g) kT = kT (s0 :: s1 :: s2 :: s3 :: s4 :: .sh d :: g) := rfl
@[simp ↓] theorem s5owow {s0 s1 s2 s3 s4 : Sl} : stC 5 (.ow d) (s0 :: s1 :: s2 :: s3 :: s4 :: .ow e :: g) kT = kT (s0 :: s1 :: s2 :: s3 :: s4 :: .ow d :: g) := rfl
@[simp ↓] theorem rv5sh {s0 s1 s2 s3 s4 : Sl} : retV 5 (s0 :: s1 :: s2 :: s3 :: s4 :: .sh d :: g) kT = .ret (.sh d) (s0 :: s1 :: s2 :: s3 :: s4 :: .sh d :: g) := rfl
@[simp ↓] theorem rv5ow {s0 s1 s2 s3 s4 : Sl} : retV 5 (s0 :: s1 :: s2 :: s3 :: s4 :: .ow d :: g) kT = .ret (.ow d) (s0 :: s1 :: s2 :: s3 :: s4 :: .no :: g) := rfl
@[simp ↓] theorem b6sh {s0 s1 s2 s3 s4 s5 : Sl} : borC 6 (s0 :: s1 :: s2 :: s3 :: s4 :: s5 :: .sh d :: g) k = k d (s0 :: s1 :: s2 :: s3 :: s4 :: s5 :: .sh d :: g) := rfl
@[simp ↓] theorem b6ow {s0 s1 s2 s3 s4 s5 : Sl} : borC 6 (s0 :: s1 :: s2 :: s3 :: s4 :: s5 :: .ow d :: g) k = k d (s0 :: s1 :: s2 :: s3 :: s4 :: s5 :: .ow d :: g) := rfl
@[simp ↓] theorem b6rf {s0 s1 s2 s3 s4 s5 : Sl} : borC 6 (s0 :: s1 :: s2 :: s3 :: s4 :: s5 :: .rf d :: g) k = k d (s0 :: s1 :: s2 :: s3 :: s4 :: s5 :: .rf d :: g) := rfl
@[simp ↓] theorem v6sh {s0 s1 s2 s3 s4 s5 : Sl} : varC 6 (s0 :: s1 :: s2 :: s3 :: s4 :: s5 :: .sh d :: g) k = k d (s0 :: s1 :: s2 :: s3 :: s4 :: s5 :: .sh d :: g) := rfl
@[simp ↓] theorem v6ow {s0 s1 s2 s3 s4 s5 : Sl} : varC 6 (s0 :: s1 :: s2 :: s3 :: s4 :: s5 :: .ow d :: g) k = k d (s0 :: s1 :: s2 :: s3 :: s4 :: s5 :: .sh d :: g) := rfl
@[simp ↓] theorem s6nosh {s0 s1 s2 s3 s4 s5 : Sl} : stC 6 (.sh d) (s0 :: s1 :: s2 :: s3 :: s4 :: s5 :: .no :: g) kT = kT (s0 :: s1 :: s2 :: s3 :: s4 :: s5 :: .sh d :: g) := rfl
@[simp ↓] theorem s6noow {s0 s1 s2 s3 s4 s5 : Sl} : stC 6 (.ow d) (s0 :: s1 :: s2 :: s3 :: s4 :: s5 :: .no :: g) kT = kT (s0 :: s1 :: s2 :: s3 :: s4 :: s5 :: .ow d :: g) := rfl
@[simp ↓] theorem s6shsh {s0 s1 s2 s3 s4 s5 : Sl} : stC 6 (.sh d) (s0 :: s1 :: s2 :: s3 :: s4 :: s5 :: .sh e :: g) kT = kT (s0 :: s1 :: s2 :: s3 :: s4 :: s5 :: .sh d :: g) := rfl
@[simp ↓] theorem s6show {s0 s1 s2 s3 s4 s5 : Sl} : stC 6 (.ow d) (s0 :: s1 :: s2 :: s3 :: s4 :: s5 :: .sh e :: g) kT = kT (s0 :: s1 :: s2 :: s3 :: s4 :: s5 :: .ow d :: g) := rfl
@[simp ↓] theorem s6owsh {s0 s1 s2 s3 s4 s5 : Sl} : stC 6 (.sh d) (s0 :: s1 :: s2 :: s3 :: s4 :: s5 :: .ow e :: g) kT = kT (s0 :: s1 :: s2 :: s3 :: s4 :: s5 :: .sh d :: g) := rfl
@[simp ↓] theorem s6owow {s0 s1 s2 s3 s4 s5 : Sl} : stC 6 (.ow d) (s0 :: s1 :: s2 :: s3 :: s4 :: s5 :: .ow e :: g) kT = kT (s0 :: s1 :: s2 :: s3 :: s4 :: s5 :: .ow d :: g) := rfl
@[simp ↓] theorem rv6sh {s0 s1 s2 s3 s4 s5 : Sl} : retV 6 (s0 :: s1 :: s2 :: s3 :: s4 :: s5 :: .sh d :: g) kT = .ret (.sh d) (s0 :: s1 :: s2 :: s3 :: s4 :: s5 :: .sh d :: g) := rfl
@[simp ↓] theorem rv6ow {s0 s1 s2 s3 s4 s5 : Sl} : retV 6 (s0 :: s1 :: s2 :: s3 :: s4 :: s5 :: .ow d :: g) kT = .ret (.ow d) (s0 :: s1 :: s2 :: s3 :: s4 :: s5 :: .no :: g) := rfl
@[simp ↓] theorem b7sh {s0 s1 s2 s3 s4 s5 s6 : Sl} : borC 7 (s0 :: s1 :: s2 :: s3 :: s4 :: s5 :: s6 :: .sh d :: g) k = k d (s0 :: s1 :: s2 :: s3 :: s4 :: s5 :: s6 :: .sh d :: g) := rfl
@[simp ↓] theorem b7ow {s0 s1 s2 s3 s4 s5 s6 : Sl} : borC 7 (s0 :: s1 :: s2 :: s3 :: s4 :: s5 :: s6 :: .ow d :: g) k = k d (s0 :: s1 :: s2 :: s3 :: s4 :: s5 :: s6 :: .ow d :: g) := rfl
@[simp ↓] theorem b7rf {s0 s1 s2 s3 s4 s5 s6 : Sl} : borC 7 (s0 :: s1 :: s2 :: s3 :: s4 :: s5 :: s6 :: .rf d :: g) k = k d (s0 :: s1 :: s2 :: s3 :: s4 :: s5 :: s6 :: .rf d :: g) := rfl
@[simp ↓] theorem v7sh {s0 s1 s2 s3 s4 s5 s6 : Sl} : varC 7 (s0 :: s1 :: s2 :: s3 :: s4 :: s5 :: s6 :: .sh d :: g) k = k d (s0 :: s1 :: s2 :: s3 :: s4 :: s5 :: s6 :: .sh d :: g) := rfl
@[simp ↓] theorem v7ow {s0 s1 s2 s3 s4 s5 s6 : Sl} : varC 7 (s0 :: s1 :: s2 :: s3 :: s4 :: s5 :: s6 :: .ow d :: g) k = k d (s0 :: s1 :: s2 :: s3 :: s4 :: s5 :: s6 :: .sh d :: g) := rfl
@[simp ↓] theorem s7nosh {s0 s1 s2 s3 s4 s5 s6 : Sl} : stC 7 (.sh d) (s0 :: s1 :: s2 :: s3 :: s4 :: s5 :: s6 :: .no :: g) kT = kT (s0 :: s1 :: s2 :: s3 :: s4 :: s5 :: s6 :: .sh d :: g) := rfl
@[simp ↓] theorem s7noow {s0 s1 s2 s3 s4 s5 s6 : Sl} : stC 7 (.ow d) (s0 :: s1 :: s2 :: s3 :: s4 :: s5 :: s6 :: .no :: g) kT = kT (s0 :: s1 :: s2 :: s3 :: s4 :: s5 :: s6 :: .ow d :: g) := rfl
@[simp ↓] theorem s7shsh {s0 s1 s2 s3 s4 s5 s6 : Sl} : stC 7 (.sh d) (s0 :: s1 :: s2 :: s3 :: s4 :: s5 :: s6 :: .sh e :: g) kT = kT (s0 :: s1 :: s2 :: s3 :: s4 :: s5 :: s6 :: .sh d :: g) := rfl
@[simp ↓] theorem s7show {s0 s1 s2 s3 s4 s5 s6 : Sl} : stC 7 (.ow d) (s0 :: s1 :: s2 :: s3 :: s4 :: s5 :: s6 :: .sh e :: g) kT = kT (s0 :: s1 :: s2 :: s3 :: s4 :: s5 :: s6 :: .ow d :: g) := rfl
@[simp ↓] theorem s7owsh {s0 s1 s2 s3 s4 s5 s6 : Sl} : stC 7 (.sh d) (s0 :: s1 :: s2 :: s3 :: s4 :: s5 :: s6 :: .ow e :: g) kT = kT (s0 :: s1 :: s2 :: s3 :: s4 :: s5 :: s6 :: .sh d :: g) := rfl
@[simp ↓] theorem s7owow {s0 s1 s2 s3 s4 s5 s6 : Sl} : stC 7 (.ow d) (s0 :: s1 :: s2 :: s3 :: s4 :: s5 :: s6 :: .ow e :: g) kT = kT (s0 :: s1 :: s2 :: s3 :: s4 :: s5 :: s6 :: .ow d :: g) := rfl
@[simp ↓] theorem rv7sh {s0 s1 s2 s3 s4 s5 s6 : Sl} : retV 7 (s0 :: s1 :: s2 :: s3 :: s4 :: s5 :: s6 :: .sh d :: g) kT = .ret (.sh d) (s0 :: s1 :: s2 :: s3 :: s4 :: s5 :: s6 :: .sh d :: g) := rfl
@[simp ↓] theorem rv7ow {s0 s1 s2 s3 s4 s5 s6 : Sl} : retV 7 (s0 :: s1 :: s2 :: s3 :: s4 :: s5 :: s6 :: .ow d :: g) kT = .ret (.ow d) (s0 :: s1 :: s2 :: s3 :: s4 :: s5 :: s6 :: .no :: g) := rfl
@[simp ↓] theorem b8sh {s0 s1 s2 s3 s4 s5 s6 s7 : Sl} : borC 8 (s0 :: s1 :: s2 :: s3 :: s4 :: s5 :: s6 :: s7 :: .sh d :: g) k = k d (s0 :: s1 :: s2 :: s3 :: s4 :: s5 :: s6 :: s7 :: .sh d :: g) := rfl
@[simp ↓] theorem b8ow {s0 s1 s2 s3 s4 s5 s6 s7 : Sl} : borC 8 (s0 :: s1 :: s2 :: s3 :: s4 :: s5 :: s6 :: s7 :: .ow d :: g) k = k d (s0 :: s1 :: s2 :: s3 :: s4 :: s5 :: s6 :: s7 :: .ow d :: g) := rfl
@[simp ↓] theorem b8rf {s0 s1 s2 s3 s4 s5 s6 s7 : Sl} : borC 8 (s0 :: s1 :: s2 :: s3 :: s4 :: s5 :: s6 :: s7 :: .rf d :: g) k = k d (s0 :: s1 :: s2 :: s3 :: s4 :: s5 :: s6 :: s7 :: .rf d :: g) := rfl
@[simp ↓] theorem v8sh {s0 s1 s2 s3 s4 s5 s6 s7 : Sl} : varC 8 (s0 :: s1 :: s2 :: s3 :: s4 :: s5 :: s6 :: s7 :: .sh d :: g) k = k d (s0 :: s1 :: s2 :: s3 :: s4 :: s5 :: s6 :: s7 :: .sh d :: g) := rfl
@[simp ↓] theorem v8ow {s0 s1 s2 s3 s4 s5 s6 s7 : Sl} : varC 8 (s0 :: s1 :: s2 :: s3 :: s4 :: s5 :: s6 :: s7 :: .ow d :: g) k = k d (s0 :: s1 :: s2 :: s3 :: s4 :: s5 :: s6 :: s7 :: .sh d :: g) := rfl
@[simp ↓] theorem s8nosh {s0 s1 s2 s3 s4 s5 s6 s7 : Sl} : stC 8 (.sh d) (s0 :: s1 :: s2 :: s3 :: s4 :: s5 :: s6 :: s7 :: .no :: g) kT = kT (s0 :: s1 :: s2 :: s3 :: s4 :: s5 :: s6 :: s7 :: .sh d :: g) := rfl
@[simp ↓] theorem s8noow {s0 s1 s2 s3 s4 s5 s6 s7 : Sl} : stC 8 (.ow d) (s0 :: s1 :: s2 :: s3 :: s4 :: s5 :: s6 :: s7 :: .no :: g) kT = kT (s0 :: s1 :: s2 :: s3 :: s4 :: s5 :: s6 :: s7 :: .ow d :: g) := rfl
@[simp ↓] theorem s8shsh {s0 s1 s2 s3 s4 s5 s6 s7 : Sl} : stC 8 (.sh d) (s0 :: s1 :: s2 :: s3 :: s4 :: s5 :: s6 :: s7 :: .sh e :: g) kT = kT (s0 :: s1 :: s2 :: s3 :: s4 :: s5 :: s6 :: s7 :: .sh d :: g) := rfl
@[simp ↓] theorem s8show {s0 s1 s2 s3 s4 s5 s6 s7 : Sl} : stC 8 (.ow d) (s0 :: s1 :: s2 :: s3 :: s4 :: s5 :: s6 :: s7 :: .sh e :: g) kT = kT (s0 :: s1 :: s2 :: s3 :: s4 :: s5 :: s6 :: s7 :: .ow d :: g) := rfl
@[simp ↓] theorem s8owsh {s0 s1 s2 s3 s4 s5 s6 s7 : Sl} : stC 8 (.sh d) (s0 :: s1 :: s2 :: s3 :: s4 :: s5 :: s6 :: s7 :: .ow e :: g) kT = kT (s0 :: s1 :: s2 :: s3 :: s4 :: s5 :: s6 :: s7 :: .sh d :: g) := rfl
@[simp ↓] theorem s8owow {s0 s1 s2 s3 s4 s5 s6 s7 : Sl} : stC 8 (.ow d) (s0 :: s1 :: s2 :: s3 :: s4 :: s5 :: s6 :: s7 :: .ow e :: g) kT = kT (s0 :: s1 :: s2 :: s3 :: s4 :: s5 :: s6 :: s7 :: .ow d :: g) := rfl
@[simp ↓] theorem rv8sh {s0 s1 s2 s3 s4 s5 s6 s7 : Sl} : retV 8 (s0 :: s1 :: s2 :: s3 :: s4 :: s5 :: s6 :: s7 :: .sh d :: g) kT = .ret (.sh d) (s0 :: s1 :: s2 :: s3 :: s4 :: s5 :: s6 :: s7 :: .sh d :: g) := rfl
@[simp ↓] theorem rv8ow {s0 s1 s2 s3 s4 s5 s6 s7 : Sl} : retV 8 (s0 :: s1 :: s2 :: s3 :: s4 :: s5 :: s6 :: s7 :: .ow d :: g) kT = .ret (.ow d) (s0 :: s1 :: s2 :: s3 :: s4 :: s5 :: s6 :: s7 :: .no :: g) := rfl
@[simp ↓] theorem b9sh {s0 s1 s2 s3 s4 s5 s6 s7 s8 : Sl} : borC 9 (s0 :: s1 :: s2 :: s3 :: s4 :: s5 :: s6 :: s7 :: s8 :: .sh d :: g) k = k d (s0 :: s1 :: s2 :: s3 :: s4 :: s5 :: s6 :: s7 :: s8 :: .sh d :: g) := rfl
@[simp ↓] theorem b9ow {s0 s1 s2 s3 s4 s5 s6 s7 s8 : Sl} : borC 9 (s0 :: s1 :: s2 :: s3 :: s4 :: s5 :: s6 :: s7 :: s8 :: .ow d :: g) k = k d (s0 :: s1 :: s2 :: s3 :: s4 :: s5 :: s6 :: s7 :: s8 :: .ow d :: g) := rfl
@[simp ↓] theorem b9rf {s0 s1 s2 s3 s4 s5 s6 s7 s8 : Sl} : borC 9 (s0 :: s1 :: s2 :: s3 :: s4 :: s5 :: s6 :: s7 :: s8 :: .rf d :: g) k = k d (s0 :: s1 :: s2 :: s3 :: s4 :: s5 :: s6 :: s7 :: s8 :: .rf d :: g) := rfl
@[simp ↓] theorem v9sh {s0 s1 s2 s3 s4 s5 s6 s7 s8 : Sl} : varC 9 (s0 :: s1 :: s2 :: s3 :: s4 :: s5 :: s6 :: s7 :: s8 :: .sh d :: g) k = k d (s0 :: s1 :: s2 :: s3 :: s4 :: s5 :: s6 :: s7 :: s8 :: .sh d :: g) := rfl
@[simp ↓] theorem v9ow {s0 s1 s2 s3 s4 s5 s6 s7 s8 : Sl} : varC 9 (s0 :: s1 :: s2 :: s3 :: s4 :: s5 :: s6 :: s7 :: s8 :: .ow d :: g) k = k d (s0 :: s1 :: s2 :: s3 :: s4 :: s5 :: s6 :: s7 :: s8 :: .sh d :: g) := rfl
@[simp ↓] theorem s9nosh {s0 s1 s2 s3 s4 s5 s6 s7 s8 : Sl} : stC 9 (.sh d) (s0 :: s1 :: s2 :: s3 :: s4 :: s5 :: s6 :: s7 :: s8 :: .no :: g) kT = kT (s0 :: s1 :: s2 :: s3 :: s4 :: s5 :: s6 :: s7 :: s8 :: .sh d :: g) := rfl
@[simp ↓] theorem s9noow {s0 s1 s2 s3 s4 s5 s6 s7 s8 : Sl} : stC 9 (.ow d) (s0 :: s1 :: s2 :: s3 :: s4 :: s5 :: s6 :: s7 :: s8 :: .no :: g) kT = kT (s0 :: s1 :: s2 :: s3 :: s4 :: s5 :: s6 :: s7 :: s8 :: .ow d :: g) := rfl
@[simp ↓] theorem s9shsh {s0 s1 s2 s3 s4 s5 s6 s7 s8 : Sl} : stC 9 (.sh d) (s0 :: s1 :: s2 :: s3 :: s4 :: s5 :: s6 :: s7 :: s8 :: .sh e :: g) kT = kT (s0 :: s1 :: s2 :: s3 :: s4 :: s5 :: s6 :: s7 :: s8 :: .sh d :: g) := rfl
@[simp ↓] theorem s9show {s0 s1 s2 s3 s4 s5 s6 s7 s8 : Sl} : stC 9 (.ow d) (s0 :: s1 :: s2 :: s3 :: s4 :: s5 :: s6 :: s7 :: s8 :: .sh e :: g) kT = kT (s0 :: s1 :: s2 :: s3 :: s4 :: s5 :: s6 :: s7 :: s8 :: .ow d :: g) := rfl
@[simp ↓] theorem s9owsh {s0 s1 s2 s3 s4 s5 s6 s7 s8 : Sl} : stC 9 (.sh d) (s0 :: s1 :: s2 :: s3 :: s4 :: s5 :: s6 :: s7 :: s8 :: .ow e :: g) kT = kT (s0 :: s1 :: s2 :: s3 :: s4 :: s5 :: s6 :: s7 :: s8 :: .sh d :: g) := rfl
@[simp ↓] theorem s9owow {s0 s1 s2 s3 s4 s5 s6 s7 s8 : Sl} : stC 9 (.ow d) (s0 :: s1 :: s2 :: s3 :: s4 :: s5 :: s6 :: s7 :: s8 :: .ow e :: g) kT = kT (s0 :: s1 :: s2 :: s3 :: s4 :: s5 :: s6 :: s7 :: s8 :: .ow d :: g) := rfl
@[simp ↓] theorem rv9sh {s0 s1 s2 s3 s4 s5 s6 s7 s8 : Sl} : retV 9 (s0 :: s1 :: s2 :: s3 :: s4 :: s5 :: s6 :: s7 :: s8 :: .sh d :: g) kT = .ret (.sh d) (s0 :: s1 :: s2 :: s3 :: s4 :: s5 :: s6 :: s7 :: s8 :: .sh d :: g) := rfl
@[simp ↓] theorem rv9ow {s0 s1 s2 s3 s4 s5 s6 s7 s8 : Sl} : retV 9 (s0 :: s1 :: s2 :: s3 :: s4 :: s5 :: s6 :: s7 :: s8 :: .ow d :: g) kT = .ret (.ow d) (s0 :: s1 :: s2 :: s3 :: s4 :: s5 :: s6 :: s7 :: s8 :: .no :: g) := rfl
@[simp ↓] theorem b10sh {s0 s1 s2 s3 s4 s5 s6 s7 s8 s9 : Sl} : borC 10 (s0 :: s1 :: s2 :: s3 :: s4 :: s5 :: s6 :: s7 :: s8 :: s9 :: .sh d :: g) k = k d (s0 :: s1 :: s2 :: s3 :: s4 :: s5 :: s6 :: s7 :: s8 :: s9 :: .sh d :: g) := rfl
@[simp ↓] theorem b10ow {s0 s1 s2 s3 s4 s5 s6 s7 s8 s9 : Sl} : borC 10 (s0 :: s1 :: s2 :: s3 :: s4 :: s5 :: s6 :: s7 :: s8 :: s9 :: .ow d :: g) k = k d (s0 :: s1 :: s2 :: s3 :: s4 :: s5 :: s6 :: s7 :: s8 :: s9 :: .ow d :: g) := rfl
@[simp ↓] theorem b10rf {s0 s1 s2 s3 s4 s5 s6 s7 s8 s9 : Sl} : borC 10 (s0 :: s1 :: s2 :: s3 :: s4 :: s5 :: s6 :: s7 :: s8 :: s9 :: .rf d :: g) k = k d (s0 :: s1 :: s2 :: s3 :: s4 :: s5 :: s6 :: s7 :: s8 :: s9 :: .rf d :: g) := rfl
@[simp ↓] theorem v10sh {s0 s1 s2 s3 s4 s5 s6 s7 s8 s9 : Sl} : varC 10 (s0 :: s1 :: s2 :: s3 :: s4 :: s5 :: s6 :: s7 :: s8 :: s9 :: .sh d :: g) k = k d (s0 :: s1 :: s2 :: s3 :: s4 :: s5 :: s6 :: s7 :: s8 :: s9 :: .sh d :: g) := rfl
@[simp ↓] theorem v10ow {s0 s1 s2 s3 s4 s5 s6 s7 s8 s9 : Sl} : varC 10 (s0 :: s1 :: s2 :: s3 :: s4 :: s5 :: s6 :: s7 :: s8 :: s9 :: .ow d :: g) k = k d (s0 :: s1 :: s2 :: s3 :: s4 :: s5 :: s6 :: s7 :: s8 :: s9 :: .sh d :: g) := rfl
@[simp ↓] theorem s10nosh {s0 s1 s2 s3 s4 s5 s6 s7 s8 s9 : Sl} : stC 10 (.sh d) (s0 :: s1 :: s2 :: s3 :: s4 :: s5 :: s6 :: s7 :: s8 :: s9 :: .no :: g) kT = kT (s0 :: s1 :: s2 :: s3 :: s4 :: s5 :: s6 :: s7 :: s8 :: s9 :: .sh d :: g) := rfl
@[simp ↓] theorem s10noow {s0 s1 s2 s3 s4 s5 s6 s7 s8 s9 : Sl} : stC 10 (.ow d) (s0 :: s1 :: s2 :: s3 :: s4 :: s5 :: s6 :: s7 :: s8 :: s9 :: .no :: g) kT = kT (s0 :: s1 :: s2 :: s3 :: s4 :: s5 :: s6 :: s7 :: s8 :: s9 :: .ow d :: g) := rfl
@[simp ↓] theorem s10shsh {s0 s1 s2 s3 s4 s5 s6 s7 s8 s9 : Sl} : stC 10 (.sh d) (s0 :: s1 :: s2 :: s3 :: s4 :: s5 :: s6 :: s7 :: s8 :: s9 :: .sh e :: g) kT = kT (s0 :: s1 :: s2 :: s3 :: s4 :: s5 :: s6 :: s7 :: s8 :: s9 :: .sh d :: g) := rfl
@[simp ↓] theorem s10show {s0 s1 s2 s3 s4 s5 s6 s7 s8 s9 : Sl} : stC 10 (.ow d) (s0 :: s1 :: s2 :: s3 :: s4 :: s5 :: s6 :: s7 :: s8 :: s9 :: .sh e :: g) kT = kT (s0 :: s1 :: s2 :: s3 :: s4 :: s5 :: s6 :: s7 :: s8 :: s9 :: .ow d :: g) := rfl
@[simp ↓] theorem s10owsh {s0 s1 s2 s3 s4 s5 s6 s7 s8 s9 : Sl} : stC 10 (.sh d) (s0 :: s1 :: s2 :: s3 :: s4 :: s5 :: s6 :: s7 :: s8 :: s9 :: .ow e :: g) kT = kT (s0 :: s1 :: s2 :: s3 :: s4 :: s5 :: s6 :: s7 :: s8 :: s9 :: .sh d :: g) := rfl
@[simp ↓] theorem s10owow {s0 s1 s2 s3 s4 s5 s6 s7 s8 s9 : Sl} : stC 10 (.ow d) (s0 :: s1 :: s2 :: s3 :: s4 :: s5 :: s6 :: s7 :: s8 :: s9 :: .ow e :: g) kT = kT (s0 :: s1 :: s2 :: s3 :: s4 :: s5 :: s6 :: s7 :: s8 :: s9 :: .ow d :: g) := rfl
@[simp ↓] theorem rv10sh {s0 s1 s2 s3 s4 s5 s6 s7 s8 s9 : Sl} : retV 10 (s0 :: s1 :: s2 :: s3 :: s4 :: s5 :: s6 :: s7 :: s8 :: s9 :: .sh d :: g) kT = .ret (.sh d) (s0 :: s1 :: s2 :: s3 :: s4 :: s5 :: s6 :: s7 :: s8 :: s9 :: .sh d :: g) := rfl
@[simp ↓] theorem rv10ow {s0 s1 s2 s3 s4 s5 s6 s7 s8 s9 : Sl} : retV 10 (s0 :: s1 :: s2 :: s3 :: s4 :: s5 :: s6 :: s7 :: s8 :: s9 :: .ow d :: g) kT = .ret (.ow d) (s0 :: s1 :: s2 :: s3 :: s4 :: s5 :: s6 :: s7 :: s8 :: s9 :: .no :: g) := rfl
@[simp ↓] theorem b11sh {s0 s1 s2 s3 s4 s5 s6 s7 s8 s9 s10 : Sl} : borC 11 (s0 :: s1 :: s2 :: s3 :: s4 :: s5 :: s6 :: s7 :: s8 :: s9 :: s10 :: .sh d :: g) k = k d (s0 :: s1 :: s2 :: s3 :: s4 :: s5 :: s6 :: s7 :: s8 :: s9 :: s10 :: .sh d :: g) := rfl
@[simp ↓] theorem b11ow {s0 s1 s2 s3 s4 s5 s6 s7 s8 s9 s10 : Sl} : borC 11 (s0 :: s1 :: s2 :: s3 :: s4 :: s5 :: s6 :: s7 :: s8 :: s9 :: s10 :: .ow d :: g) k = k d (s0 :: s1 :: s2 :: s3 :: s4 :: s5 :: s6 :: s7 :: s8 :: s9 :: s10 :: .ow d :: g) := rfl
@[simp ↓] theorem b11rf {s0 s1 s2 s3 s4 s5 s6 s7 s8 s9 s10 : Sl} : borC 11 (s0 :: s1 :: s2 :: s3 :: s4 :: s5 :: s6 :: s7 :: s8 :: s9 :: s10 :: .rf d :: g) k = k d (s0 :: s1 :: s2 :: s3 :: s4 :: s5 :: s6 :: s7 :: s8 :: s9 :: s10 :: .rf d :: g) := rfl
@[simp ↓] theorem v11sh {s0 s1 s2 s3 s4 s5 s6 s7 s8 s9 s10 : Sl} : varC 11 (s0 :: s1 :: s2 :: s3 :: s4 :: s5 :: s6 :: s7 :: s8 :: s9 :: s10 :: .sh d :: g) k = k d (s0 :: s1 :: s2 :: s3 :: s4 :: s5 :: s6 :: s7 :: s8 :: s9 :: s10 :: .sh d :: g) := rfl
@[simp ↓] theorem v11ow {s0 s1 s2 s3 s4 s5 s6 s7 s8 s9 s10 : Sl} : varC 11 (s0 :: s1 :: s2 :: s3 :: s4 :: s5 :: s6 :: s7 :: s8 :: s9 :: s10 :: .ow d :: g) k = k d (s0 :: s1 :: s2 :: s3 :: s4 :: s5 :: s6 :: s7 :: s8 :: s9 :: s10 :: .sh d :: g) := rfl
@[simp ↓] theorem s11nosh {s0 s1 s2 s3 s4 s5 s6 s7 s8 s9 s10 : Sl} : stC 11 (.sh d) (s0 :: s1 :: s2 :: s3 :: s4 :: s5 :: s6 :: s7 :: s8 :: s9 :: s10 :: .no :: g) kT = kT (s0 :: s1 :: s2 :: s3 :: s4 :: s5 :: s6 :: s7 :: s8 :: s9 :: s10 :: .sh d :: g) := rfl
@[simp ↓] theorem s11noow {s0 s1 s2 s3 s4 s5 s6 s7 s8 s9 s10 : Sl} : stC 11 (.ow d) (s0 :: s1 :: s2 :: s3 :: s4 :: s5 :: s6 :: s7 :: s8 :: s9 :: s10 :: .no :: g) kT = kT (s0 :: s1 :: s2 :: s3 :: s4 :: s5 :: s6 :: s7 :: s8 :: s9 :: s10 :: .ow d :: g) := rfl
@[simp ↓] theorem s11shsh {s0 s1 s2 s3 s4 s5 s6 s7 s8 s9 s10 : Sl} : stC 11 (.sh d) (s0 :: s1 :: s2 :: s3 :: s4 :: s5 :: s6 :: s7 :: s8 :: s9 :: s10 :: .sh e :: g) kT = kT (s0 :: s1 :: s2 :: s3 :: s4 :: s5 :: s6 :: s7 :: s8 :: s9 :: s10 :: .sh d :: g) := rfl
@[simp ↓] theorem s11show {s0 s1 s2 s3 s4 s5 s6 s7 s8 s9 s10 : Sl} : stC 11 (.ow d) (s0 :: s1 :: s2 :: s3 :: s4 :: s5 :: s6 :: s7 :: s8 :: s9 :: s10 :: .sh e :: g) kT = kT (s0 :: s1 :: s2 :: s3 :: s4 :: s5 :: s6 :: s7 :: s8 :: s9 :: s10 :: .ow d :: g) := rfl
@[simp ↓] theorem s11owsh {s0 s1 s2 s3 s4 s5 s6 s7 s8 s9 s10 : Sl} : stC 11 (.sh d) (s0 :: s1 :: s2 :: s3 :: s4 :: s5 :: s6 :: s7 :: s8 :: s9 :: s10 :: .ow e :: g) kT = kT (s0 :: s1 :: s2 :: s3 :: s4 :: s5 :: s6 :: s7 :: s8 :: s9 :: s10 :: .sh d :: g) := rfl
@[simp ↓] theorem s11owow {s0 s1 s2 s3 s4 s5 s6 s7 s8 s9 s10 : Sl} : stC 11 (.ow d) (s0 :: s1 :: s2 :: s3 :: s4 :: s5 :: s6 :: s7 :: s8 :: s9 :: s10 :: .ow e :: g) kT = kT (s0 :: s1 :: s2 :: s3 :: s4 :: s5 :: s6 :: s7 :: s8 :: s9 :: s10 :: .ow d :: g) := rfl
@[simp ↓] theorem rv11sh {s0 s1 s2 s3 s4 s5 s6 s7 s8 s9 s10 : Sl} : retV 11 (s0 :: s1 :: s2 :: s3 :: s4 :: s5 :: s6 :: s7 :: s8 :: s9 :: s10 :: .sh d :: g) kT = .ret (.sh d) (s0 :: s1 :: s2 :: s3 :: s4 :: s5 :: s6 :: s7 :: s8 :: s9 :: s10 :: .sh d :: g) := rfl
@[simp ↓] theorem rv11ow {s0 s1 s2 s3 s4 s5 s6 s7 s8 s9 s10 : Sl} : retV 11 (s0 :: s1 :: s2 :: s3 :: s4 :: s5 :: s6 :: s7 :: s8 :: s9 :: s10 :: .ow d :: g) kT = .ret (.ow d) (s0 :: s1 :: s2 :: s3 :: s4 :: s5 :: s6 :: s7 :: s8 :: s9 :: s10 :: .no :: g) := rfl
@[simp ↓] theorem b12sh {s0 s1 s2 s3 s4 s5 s6 s7 s8 s9 s10 s11 : Sl} : borC 12 (s0 :: s1 :: s2 :: s3 :: s4 :: s5 :: s6 :: s7 :: s8 :: s9 :: s10 :: s11 :: .sh d :: g) k = k d (s0 :: s1 :: s2 :: s3 :: s4 :: s5 :: s6 :: s7 :: s8 :: s9 :: s10 :: s11 :: .sh d :: g) := rfl
@[simp ↓] theorem b12ow {s0 s1 s2 s3 s4 s5 s6 s7 s8 s9 s10 s11 : Sl} : borC 12 (s0 :: s1 :: s2 :: s3 :: s4 :: s5 :: s6 :: s7 :: s8 :: s9 :: s10 :: s11 :: .ow d :: g) k = k d (s0 :: s1 :: s2 :: s3 :: s4 :: s5 :: s6 :: s7 :: s8 :: s9 :: s10 :: s11 :: .ow d :: g) := rfl
@[simp ↓] theorem b12rf {s0 s1 s2 s3 s4 s5 s6 s7 s8 s9 s10 s11 : Sl} : borC 12 (s0 :: s1 :: s2 :: s3 :: s4 :: s5 :: s6 :: s7 :: s8 :: s9 :: s10 :: s11 :: .rf d :: g) k = k d (s0 :: s1 :: s2 :: s3 :: s4 :: s5 :: s6 :: s7 :: s8 :: s9 :: s10 :: s11 :: .rf d :: g) := rfl
@[simp ↓] theorem v12sh {s0 s1 s2 s3 s4 s5 s6 s7 s8 s9 s10 s11 : Sl} : varC 12 (s0 :: s1 :: s2 :: s3 :: s4 :: s5 :: s6 :: s7 :: s8 :: s9 :: s10 :: s11 :: .sh d :: g) k = k d (s0 :: s1 :: s2 :: s3 :: s4 :: s5 :: s6 :: s7 :: s8 :: s9 :: s10 :: s11 :: .sh d :: g) := rfl
@[simp ↓] theorem v12ow {s0 s1 s2 s3 s4 s5 s6 s7 s8 s9 s10 s11 : Sl} : varC 12 (s0 :: s1 :: s2 :: s3 :: s4 :: s5 :: s6 :: s7 :: s8 :: s9 :: s10 :: s11 :: .ow d :: g) k = k d (s0 :: s1 :: s2 :: s3 :: s4 :: s5 :: s6 :: s7 :: s8 :: s9 :: s10 :: s11 :: .sh d :: g) := rfl
@[simp ↓] theorem s12nosh {s0 s1 s2 s3 s4 s5 s6 s7 s8 s9 s10 s11 : Sl} : stC 12 (.sh d) (s0 :: s1 :: s2 :: s3 :: s4 :: s5 :: s6 :: s7 :: s8 :: s9 :: s10 :: s11 :: .no :: g) kT = kT (s0 :: s1 :: s2 :: s3 :: s4 :: s5 :: s6 :: s7 :: s8 :: s9 :: s10 :: s11 :: .sh d :: g) := rfl
@[simp ↓] theorem s12noow {s0 s1 s2 s3 s4 s5 s6 s7 s8 s9 s10 s11 : Sl} : stC 12 (.ow d) (s0 :: s1 :: s2 :: s3 :: s4 :: s5 :: s6 :: s7 :: s8 :: s9 :: s10 :: s11 :: .no :: g) kT = kT (s0 :: s1 :: s2 :: s3 :: s4 :: s5 :: s6 :: s7 :: s8 :: s9 :: s10 :: s11 :: .ow d :: g) := rfl
@[simp ↓] theorem s12shsh {s0 s1 s2 s3 s4 s5 s6 s7 s8 s9 s10 s11 : Sl} : stC 12 (.sh d) (s0 :: s1 :: s2 :: s3 :: s4 :: s5 :: s6 :: s7 :: s8 :: s9 :: s10 :: s11 :: .sh e :: g) kT = kT (s0 :: s1 :: s2 :: s3 :: s4 :: s5 :: s6 :: s7 :: s8 :: s9 :: s10 :: s11 :: .sh d :: g) := rfl
@[simp ↓] theorem s12show {s0 s1 s2 s3 s4 s5 s6 s7 s8 s9 s10 s11 : Sl} : stC 12 (.ow d) (s0 :: s1 :: s2 :: s3 :: s4 :: s5 :: s6 :: s7 :: s8 :: s9 :: s10 :: s11 :: .sh e :: g) kT = kT (s0 :: s1 :: s2 :: s3 :: s4 :: s5 :: s6 :: s7 :: s8 :: s9 :: s10 :: s11 :: .ow d :: g) := rfl
@[simp ↓] theorem s12owsh {s0 s1 s2 s3 s4 s5 s6 s7 s8 s9 s10 s11 : Sl} : stC 12 (.sh d) (s0 :: s1 :: s2 :: s3 :: s4 :: s5 :: s6 :: s7 :: s8 :: s9 :: s10 :: s11 :: .ow e :: g) kT = kT (s0 :: s1 :: s2 :: s3 :: s4 :: s5 :: s6 :: s7 :: s8 :: s9 :: s10 :: s11 :: .sh d :: g) := rfl
@[simp ↓] theorem s12owow {s0 s1 s2 s3 s4 s5 s6 s7 s8 s9 s10 s11 : Sl} : stC 12 (.ow d) (s0 :: s1 :: s2 :: s3 :: s4 :: s5 :: s6 :: s7 :: s8 :: s9 :: s10 :: s11 :: .ow e :: g) kT = kT (s0 :: s1 :: s2 :: s3 :: s4 :: s5 :: s6 :: s7 :: s8 :: s9 :: s10 :: s11 :: .ow d :: g) := rfl
@[simp ↓] theorem rv12sh {s0 s1 s2 s3 s4 s5 s6 s7 s8 s9 s10 s11 : Sl} : retV 12 (s0 :: s1 :: s2 :: s3 :: s4 :: s5 :: s6 :: s7 :: s8 :: s9 :: s10 :: s11 :: .sh d :: g) kT = .ret (.sh d) (s0 :: s1 :: s2 :: s3 :: s4 :: s5 :: s6 :: s7 :: s8 :: s9 :: s10 :: s11 :: .sh d :: g) := rfl
@[simp ↓] theorem rv12ow {s0 s1 s2 s3 s4 s5 s6 s7 s8 s9 s10 s11 : Sl} : retV 12 (s0 :: s1 :: s2 :: s3 :: s4 :: s5 :: s6 :: s7 :: s8 :: s9 :: s10 :: s11 :: .ow d :: g) kT = .ret (.ow d) (s0 :: s1 :: s2 :: s3 :: s4 :: s5 :: s6 :: s7 :: s8 :: s9 :: s10 :: s11 :: .no :: g) := rfl
@[simp ↓] theorem b13sh {s0 s1 s2 s3 s4 s5 s6 s7 s8 s9 s10 s11 s12 : Sl} : borC 13 (s0 :: s1 :: s2 :: s3 :: s4 :: s5 :: s6 :: s7 :: s8 :: s9 :: s10 :: s11 :: s12 :: .sh d :: g) k = k d (s0 :: s1 :: s2 :: s3 :: s4 :: s5 :: s6 :: s7 :: s8 :: s9 :: s10 :: s11 :: s12 :: .sh d :: g) := rfl
@[simp ↓] theorem b13ow {s0 s1 s2 s3 s4 s5 s6 s7 s8 s9 s10 s11 s12 : Sl} : borC 13 (s0 :: s1 :: s2 :: s3 :: s4 :: s5 :: s6 :: s7 :: s8 :: s9 :: s10 :: s11 :: s12 :: .ow d :: g) k = k d (s0 :: s1 :: s2 :: s3 :: s4 :: s5 :: s6 :: s7 :: s8 :: s9 :: s10 :: s11 :: s12 :: .ow d :: g) := rfl
@[simp ↓] theorem b13rf {s0 s1 s2 s3 s4 s5 s6 s7 s8 s9 s10 s11 s12 : Sl} : borC 13 (s0 :: s1 :: s2 :: s3 :: s4 :: s5 :: s6 :: s7 :: s8 :: s9 :: s10 :: s11 :: s12 :: .rf d :: g) k = k d (s0 :: s1 :: s2 :: s3 :: s4 :: s5 :: s6 :: s7 :: s8 :: s9 :: s10 :: s11 :: s12 :: .rf d :: g) := rfl
@[simp ↓] theorem v13sh {s0 s1 s2 s3 s4 s5 s6 s7 s8 s9 s10 s11 s12 : Sl} : varC 13 (s0 :: s1 :: s2 :: s3 :: s4 :: s5 :: s6 :: s7 :: s8 :: s9 :: s10 :: s11 :: s12 :: .sh d :: g) k = k d (s0 :: s1 :: s2 :: s3 :: s4 :: s5 :: s6 :: s7 :: s8 :: s9 :: s10 :: s11 :: s12 :: .sh d :: g) := rfl
@[simp ↓] theorem v13ow {s0 s1 s2 s3 s4 s5 s6 s7 s8 s9 s10 s11 s12 : Sl} : varC 13 (s0 :: s1 :: s2 :: s3 :: s4 :: s5 :: s6 :: s7 :: s8 :: s9 :: s10 :: s11 :: s12 :: .ow d :: g) k = k d (s0 :: s1 :: s2 :: s3 :: s4 :: s5 :: s6 :: s7 :: s8 :: s9 :: s10 :: s11 :: s12 :: .sh d :: g) := rfl
@[simp ↓] theorem s13nosh {s0 s1 s2 s3 s4 s5 s6 s7 s8 s9 s10 s11 s12 : Sl} : stC 13 (.sh d) (s0 :: s1 :: s2 :: s3 :: s4 :: s5 :: s6 :: s7 :: s8 :: s9 :: s10 :: s11 :: s12 :: .no :: g) kT = kT (s0 :: s1 :: s2 :: s3 :: s4 :: s5 :: s6 :: s7 :: s8 :: s9 :: s10 :: s11 :: s12 :: .sh d :: g) := rfl
@[simp ↓] theorem s13noow {s0 s1 s2 s3 s4 s5 s6 s7 s8 s9 s10 s11 s12 : Sl} : stC 13 (.ow d) (s0 :: s1 :: s2 :: s3 :: s4 :: s5 :: s6 :: s7 :: s8 :: s9 :: s10 :: s11 :: s12 :: .no :: g) kT = kT (s0 :: s1 :: s2 :: s3 :: s4 :: s5 :: s6 :: s7 :: s8 :: s9 :: s10 :: s11 :: s12 :: .ow d :: g) := rfl
@[simp ↓] theorem s13shsh {s0 s1 s2 s3 s4 s5 s6 s7 s8 s9 s10 s11 s12 : Sl} : stC 13 (.sh d) (s0 :: s1 :: s2 :: s3 :: s4 :: s5 :: s6 :: s7 :: s8 :: s9 :: s10 :: s11 :: s12 :: .sh e :: g) kT = kT (s0 :: s1 :: s2 :: s3 :: s4 :: s5 :: s6 :: s7 :: s8 :: s9 :: s10 :: s11 :: s12 :: .sh d :: g) := rfl
@[simp ↓] theorem s13show {s0 s1 s2 s3 s4 s5 s6 s7 s8 s9 s10 s11 s12 : Sl} : stC 13 (.ow d) (s0 :: s1 :: s2 :: s3 :: s4 :: s5 :: s6 :: s7 :: s8 :: s9 :: s10 :: s11 :: s12 :: .sh e :: g) kT = kT (s0 :: s1 :: s2 :: s3 :: s4 :: s5 :: s6 :: s7 :: s8 :: s9 :: s10 :: s11 :: s12 :: .ow d :: g) := rfl
@[simp ↓] theorem s13owsh {s0 s1 s2 s3 s4 s5 s6 s7 s8 s9 s10 s11 s12 : Sl} : stC 13 (.sh d) (s0 :: s1 :: s2 :: s3 :: s4 :: s5 :: s6 :: s7 :: s8 :: s9 :: s10 :: s11 :: s12 :: .ow e :: g) kT = kT (s0 :: s1 :: s2 :: s3 :: s4 :: s5 :: s6 :: s7 :: s8 :: s9 :: s10 :: s11 :: s12 :: .sh d :: g) := rfl
@[simp ↓] theorem s13owow {s0 s1 s2 s3 s4 s5 s6 s7 s8 s9 s10 s11 s12 : Sl} : stC 13 (.ow d) (s0 :: s1 :: s2 :: s3 :: s4 :: s5 :: s6 :: s7 :: s8 :: s9 :: s10 :: s11 :: s12 :: .ow e :: g) kT = kT (s0 :: s1 :: s2 :: s3 :: s4 :: s5 :: s6 :: s7 :: s8 :: s9 :: s10 :: s11 :: s12 :: .ow d :: g) := rfl
@[simp ↓] theorem rv13sh {s0 s1 s2 s3 s4 s5 s6 s7 s8 s9 s10 s11 s12 : Sl} : retV 13 (s0 :: s1 :: s2 :: s3 :: s4 :: s5 :: s6 :: s7 :: s8 :: s9 :: s10 :: s11 :: s12 :: .sh d :: g) kT = .ret (.sh d) (s0 :: s1 :: s2 :: s3 :: s4 :: s5 :: s6 :: s7 :: s8 :: s9 :: s10 :: s11 :: s12 :: .sh d :: g) := rfl
@[simp ↓] theorem rv13ow {s0 s1 s2 s3 s4 s5 s6 s7 s8 s9 s10 s11 s12 : Sl} : retV 13 (s0 :: s1 :: s2 :: s3 :: s4 :: s5 :: s6 :: s7 :: s8 :: s9 :: s10 :: s11 :: s12 :: .ow d :: g) kT = .ret (.ow d) (s0 :: s1 :: s2 :: s3 :: s4 :: s5 :: s6 :: s7 :: s8 :: s9 :: s10 :: s11 :: s12 :: .no :: g) := rfl
@[simp ↓] theorem b14sh {s0 s1 s2 s3 s4 s5 s6 s7 s8 s9 s10 s11 s12 s13 : Sl} : borC 14 (s0 :: s1 :: s2 :: s3 :: s4 :: s5 :: s6 :: s7 :: s8 :: s9 :: s10 :: s11 :: s12 :: s13 :: .sh d :: g) k = k d (s0 :: s1 :: s2 :: s3 :: s4 :: s5 :: s6 :: s7 :: s8 :: s9 :: s10 :: s11 :: s12 :: s13 :: .sh d :: g) := rfl
@[simp ↓] theorem b14ow {s0 s1 s2 s3 s4 s5 s6 s7 s8 s9 s10 s11 s12 s13 : Sl} : borC 14 (s0 :: s1 :: s2 :: s3 :: s4 :: s5 :: s6 :: s7 :: s8 :: s9 :: s10 :: s11 :: s12 :: s13 :: .ow d :: g) k = k d (s0 :: s1 :: s2 :: s3 :: s4 :: s5 :: s6 :: s7 :: s8 :: s9 :: s10 :: s11 :: s12 :: s13 :: .ow d :: g) := rfl
@[simp ↓] theorem b14rf {s0 s1 s2 s3 s4 s5 s6 s7 s8 s9 s10 s11 s12 s13 : Sl} : borC 14 (s0 :: s1 :: s2 :: s3 :: s4 :: s5 :: s6 :: s7 :: s8 :: s9 :: s10 :: s11 :: s12 :: s13 :: .rf d :: g) k = k d (s0 :: s1 :: s2 :: s3 :: s4 :: s5 :: s6 :: s7 :: s8 :: s9 :: s10 :: s11 :: s12 :: s13 :: .rf d :: g) := rfl
@[simp ↓] theorem v14sh {s0 s1 s2 s3 s4 s5 s6 s7 s8 s9 s10 s11 s12 s13 : Sl} : varC 14 (s0 :: s1 :: s2 :: s3 :: s4 :: s5 :: s6 :: s7 :: s8 :: s9 :: s10 :: s11 :: s12 :: s13 :: .sh d :: g) k = k d (s0 :: s1 :: s2 :: s3 :: s4 :: s5 :: s6 :: s7 :: s8 :: s9 :: s10 :: s11 :: s12 :: s13 :: .sh d :: g) := rfl
@[simp ↓] theorem v14ow {s0 s1 s2 s3 s4 s5 s6 s7 s8 s9 s10 s11 s12 s13 : Sl} : varC 14 (s0 :: s1 :: s2 :: s3 :: s4 :: s5 :: s6 :: s7 :: s8 :: s9 :: s10 :: s11 :: s12 :: s13 :: .ow d :: g) k = k d (s0 :: s1 :: s2 :: s3 :: s4 :: s5 :: s6 :: s7 :: s8 :: s9 :: s10 :: s11 :: s12 :: s13 :: .sh d :: g) := rfl
@[simp ↓] theorem s14nosh {s0 s1 s2 s3 s4 s5 s6 s7 s8 s9 s10 s11 s12 s13 : Sl} : stC 14 (.sh d) (s0 :: s1 :: s2 :: s3 :: s4 :: s5 :: s6 :: s7 :: s8 :: s9 :: s10 :: s11 :: s12 :: s13 :: .no :: g) kT = kT (s0 :: s1 :: s2 :: s3 :: s4 :: s5 :: s6 :: s7 :: s8 :: s9 :: s10 :: s11 :: s12 :: s13 :: .sh d :: g) := rfl
@[simp ↓] theorem s14noow {s0 s1 s2 s3 s4 s5 s6 s7 s8 s9 s10 s11 s12 s13 : Sl} : stC 14 (.ow d) (s0 :: s1 :: s2 :: s3 :: s4 :: s5 :: s6 :: s7 :: s8 :: s9 :: s10 :: s11 :: s12 :: s13 :: .no :: g) kT = kT (s0 :: s1 :: s2 :: s3 :: s4 :: s5 :: s6 :: s7 :: s8 :: s9 :: s10 :: s11 :: s12 :: s13 :: .ow d :: g) := rfl
@[simp ↓] theorem s14shsh {s0 s1 s2 s3 s4 s5 s6 s7 s8 s9 s10 s11 s12 s13 : Sl} : stC 14 (.sh d) (s0 :: s1 :: s2 :: s3 :: s4 :: s5 :: s6 :: s7 :: s8 :: s9 :: s10 :: s11 :: s12 :: s13 :: .sh e :: g) kT = kT (s0 :: s1 :: s2 :: s3 :: s4 :: s5 :: s6 :: s7 :: s8 :: s9 :: s10 :: s11 :: s12 :: s13 :: .sh d :: g) := rfl
@[simp ↓] theorem s14show {s0 s1 s2 s3 s4 s5 s6 s7 s8 s9 s10 s11 s12 s13 : Sl} : stC 14 (.ow d) (s0 :: s1 :: s2 :: s3 :: s4 :: s5 :: s6 :: s7 :: s8 :: s9 :: s10 :: s11 :: s12 :: s13 :: .sh e :: g) kT = kT (s0 :: s1 :: s2 :: s3 :: s4 :: s5 :: s6 :: s7 :: s8 :: s9 :: s10 :: s11 :: s12 :: s13 :: .ow d :: g) := rfl
@[simp ↓] theorem s14owsh {s0 s1 s2 s3 s4 s5 s6 s7 s8 s9 s10 s11 s12 s13 : Sl} : stC 14 (.sh d) (s0 :: s1 :: s2 :: s3 :: s4 :: s5 :: s6 :: s7 :: s8 :: s9 :: s10 :: s11 :: s12 :: s13 :: .ow e :: g) kT = kT (s0 :: s1 :: s2 :: s3 :: s4 :: s5 :: s6 :: s7 :: s8 :: s9 :: s10 :: s11 :: s12 :: s13 :: .sh d :: g) := rfl
@[simp ↓] theorem s14owow {s0 s1 s2 s3 s4 s5 s6 s7 s8 s9 s10 s11 s12 s13 : Sl} : stC 14 (.ow d) (s0 :: s1 :: s2 :: s3 :: s4 :: s5 :: s6 :: s7 :: s8 :: s9 :: s10 :: s11 :: s12 :: s13 :: .ow e :: g) kT = kT (s0 :: s1 :: s2 :: s3 :: s4 :: s5 :: s6 :: s7 :: s8 :: s9 :: s10 :: s11 :: s12 :: s13 :: .ow d :: g) := rfl
@[simp ↓] theorem rv14sh {s0 s1 s2 s3 s4 s5 s6 s7 s8 s9 s10 s11 s12 s13 : Sl} : retV 14 (s0 :: s1 :: s2 :: s3 :: s4 :: s5 :: s6 :: s7 :: s8 :: s9 :: s10 :: s11 :: s12 :: s13 :: .sh d :: g) kT = .ret (.sh d) (s0 :: s1 :: s2 :: s3 :: s4 :: s5 :: s6 :: s7 :: s8 :: s9 :: s10 :: s11 :: s12 :: s13 :: .sh d :: g) := rfl
@[simp ↓] theorem rv14ow {s0 s1 s2 s3 s4 s5 s6 s7 s8 s9 s10 s11 s12 s13 : Sl} : retV 14 (s0 :: s1 :: s2 :: s3 :: s4 :: s5 :: s6 :: s7 :: s8 :: s9 :: s10 :: s11 :: s12 :: s13 :: .ow d :: g) kT = .ret (.ow d) (s0 :: s1 :: s2 :: s3 :: s4 :: s5 :: s6 :: s7 :: s8 :: s9 :: s10 :: s11 :: s12 :: s13 :: .no :: g) := rfl
@[simp ↓] theorem b15sh {s0 s1 s2 s3 s4 s5 s6 s7 s8 s9 s10 s11 s12 s13 s14 : Sl} : borC 15 (s0 :: s1 :: s2 :: s3 :: s4 :: s5 :: s6 :: s7 :: s8 :: s9 :: s10 :: s11 :: s12 :: s13 :: s14 :: .sh d :: g) k = k d (s0 :: s1 :: s2 :: s3 :: s4 :: s5 :: s6 :: s7 :: s8 :: s9 :: s10 :: s11 :: s12 :: s13 :: s14 :: .sh d :: g) := rfl
@[simp ↓] theorem b15ow {s0 s1 s2 s3 s4 s5 s6 s7 s8 s9 s10 s11 s12 s13 s14 : Sl} : borC 15 (s0 :: s1 :: s2 :: s3 :: s4 :: s5 :: s6 :: s7 :: s8 :: s9 :: s10 :: s11 :: s12 :: s13 :: s14 :: .ow d :: g) k = k d (s0 :: s1 :: s2 :: s3 :: s4 :: s5 :: s6 :: s7 :: s8 :: s9 :: s10 :: s11 :: s12 :: s13 :: s14 :: .ow d :: g) := rfl
@[simp ↓] theorem b15rf {s0 s1 s2 s3 s4 s5 s6 s7 s8 s9 s10 s11 s12 s13 s14 : Sl} : borC 15 (s0 :: s1 :: s2 :: s3 :: s4 :: s5 :: s6 :: s7 :: s8 :: s9 :: s10 :: s11 :: s12 :: s13 :: s14 :: .rf d :: g) k = k d (s0 :: s1 :: s2 :: s3 :: s4 :: s5 :: s6 :: s7 :: s8 :: s9 :: s10 :: s11 :: s12 :: s13 :: s14 :: .rf d :: g) := rfl
@[simp ↓] theorem v15sh {s0 s1 s2 s3 s4 s5 s6 s7 s8 s9 s10 s11 s12 s13 s14 : Sl} : varC 15 (s0 :: s1 :: s2 :: s3 :: s4 :: s5 :: s6 :: s7 :: s8 :: s9 :: s10 :: s11 :: s12 :: s13 :: s14 :: .sh d :: g) k = k d (s0 :: s1 :: s2 :: s3 :: s4 :: s5 :: s6 :: s7 :: s8 :: s9 :: s10 :: s11 :: s12 :: s13 :: s14 :: .sh d :: g) := rfl
@[simp ↓] theorem v15ow {s0 s1 s2 s3 s4 s5 s6 s7 s8 s9 s10 s11 s12 s13 s14 : Sl} : varC 15 (s0 :: s1 :: s2 :: s3 :: s4 :: s5 :: s6 :: s7 :: s8 :: s9 :: s10 :: s11 :: s12 :: s13 :: s14 :: .ow d :: g) k = k d (s0 :: s1 :: s2 :: s3 :: s4 :: s5 :: s6 :: s7 :: s8 :: s9 :: s10 :: s11 :: s12 :: s13 :: s14 :: .sh d :: g) := rfl
@[simp ↓] theorem s15nosh {s0 s1 s2 s3 s4 s5 s6 s7 s8 s9 s10 s11 s12 s13 s14 : Sl} : stC 15 (.sh d) (s0 :: s1 :: s2 :: s3 :: s4 :: s5 :: s6 :: s7 :: s8 :: s9 :: s10 :: s11 :: s12 :: s13 :: s14 :: .no :: g) kT = kT (s0 :: s1 :: s2 :: s3 :: s4 :: s5 :: s6 :: s7 :: s8 :: s9 :: s10 :: s11 :: s12 :: s13 :: s14 :: .sh d :: g) := rfl
@[simp ↓] theorem s15noow {s0 s1 s2 s3 s4 s5 s6 s7 s8 s9 s10 s11 s12 s13 s14 : Sl} : stC 15 (.ow d) (s0 :: s1 :: s2 :: s3 :: s4 :: s5 :: s6 :: s7 :: s8 :: s9 :: s10 :: s11 :: s12 :: s13 :: s14 :: .no :: g) kT = kT (s0 :: s1 :: s2 :: s3 :: s4 :: s5 :: s6 :: s7 :: s8 :: s9 :: s10 :: s11 :: s12 :: s13 :: s14 :: .ow d :: g) := rfl
@[simp ↓] theorem s15shsh {s0 s1 s2 s3 s4 s5 s6 s7 s8 s9 s10 s11 s12 s13 s14 : Sl} : stC 15 (.sh d) (s0 :: s1 :: s2 :: s3 :: s4 :: s5 :: s6 :: s7 :: s8 :: s9 :: s10 :: s11 :: s12 :: s13 :: s14 :: .sh e :: g) kT = kT (s0 :: s1 :: s2 :: s3 :: s4 :: s5 :: s6 :: s7 :: s8 :: s9 :: s10 :: s11 :: s12 :: s13 :: s14 :: .sh d :: g) := rfl
@[simp ↓] theorem s15show {s0 s1 s2 s3 s4 s5 s6 s7 s8 s9 s10 s11 s12 s13 s14 : Sl} : stC 15 (.ow d) (s0 :: s1 :: s2 :: s3 :: s4 :: s5 :: s6 :: s7 :: s8 :: s9 :: s10 :: s11 :: s12 :: s13 :: s14 :: .sh e :: g) kT = kT (s0 :: s1 :: s2 :: s3 :: s4 :: s5 :: s6 :: s7 :: s8 :: s9 :: s10 :: s11 :: s12 :: s13 :: s14 :: .ow d :: g) := rfl
@[simp ↓] theorem s15owsh {s0 s1 s2 s3 s4 s5 s6 s7 s8 s9 s10 s11 s12 s13 s14 : Sl} : stC 15 (.sh d) (s0 :: s1 :: s2 :: s3 :: s4 :: s5 :: s6 :: s7 :: s8 :: s9 :: s10 :: s11 :: s12 :: s13 :: s14 :: .ow e :: g) kT = kT (s0 :: s1 :: s2 :: s3 :: s4 :: s5 :: s6 :: s7 :: s8 :: s9 :: s10 :: s11 :: s12 :: s13 :: s14 :: .sh d :: g) := rfl
@[simp ↓] theorem s15owow {s0 s1 s2 s3 s4 s5 s6 s7 s8 s9 s10 s11 s12 s13 s14 : Sl} : stC 15 (.ow d) (s0 :: s1 :: s2 :: s3 :: s4 :: s5 :: s6 :: s7 :: s8 :: s9 :: s10 :: s11 :: s12 :: s13 :: s14 :: .ow e :: g) kT = kT (s0 :: s1 :: s2 :: s3 :: s4 :: s5 :: s6 :: s7 :: s8 :: s9 :: s10 :: s11 :: s12 :: s13 :: s14 :: .ow d :: g) := rfl
@[simp ↓] theorem rv15sh {s0 s1 s2 s3 s4 s5 s6 s7 s8 s9 s10 s11 s12 s13 s14 : Sl} : retV 15 (s0 :: s1 :: s2 :: s3 :: s4 :: s5 :: s6 :: s7 :: s8 :: s9 :: s10 :: s11 :: s12 :: s13 :: s14 :: .sh d :: g) kT = .ret (.sh d) (s0 :: s1 :: s2 :: s3 :: s4 :: s5 :: s6 :: s7 :: s8 :: s9 :: s10 :: s11 :: s12 :: s13 :: s14 :: .sh d :: g) := rfl
@[simp ↓] theorem rv15ow {s0 s1 s2 s3 s4 s5 s6 s7 s8 s9 s10 s11 s12 s13 s14 : Sl} : retV 15 (s0 :: s1 :: s2 :: s3 :: s4 :: s5 :: s6 :: s7 :: s8 :: s9 :: s10 :: s11 :: s12 :: s13 :: s14 :: .ow d :: g) kT = .ret (.ow d) (s0 :: s1 :: s2 :: s3 :: s4 :: s5 :: s6 :: s7 :: s8 :: s9 :: s10 :: s11 :: s12 :: s13 :: s14 :: .no :: g) := rfl
@[simp] theorem in_int_none  : instOf "int" .none = false := by simp [instOf]
@[simp] theorem in_int_bool {b : Bool} : instOf "int" (.bool b) = true := by simp [instOf]
@[simp] theorem in_int_int {x : Int} : instOf "int" (.int x) = true := by simp [instOf]
@[simp] theorem in_int_str {z : Str} : instOf "int" (.str z) = false := by simp [instOf]
@[simp] theorem in_int_list {l : List D} : instOf "int" (.list l) = false := by simp [instOf]
@[simp] theorem in_int_tuple {l : List D} : instOf "int" (.tuple l) = false := by simp [instOf]
@[simp] theorem in_int_dict {l2 : List (D × D)} : instOf "int" (.dict l2) = false := by simp [instOf]
@[simp] theorem in_bool_none  : instOf "bool" .none = false := by simp [instOf]
@[simp] theorem in_bool_bool {b : Bool} : instOf "bool" (.bool b) = true := by simp [instOf]
@[simp] theorem in_bool_int {x : Int} : instOf "bool" (.int x) = false := by simp [instOf]
@[simp] theorem in_bool_str {z : Str} : instOf "bool" (.str z) = false := by simp [instOf]
@[simp] theorem in_bool_list {l : List D} : instOf "bool" (.list l) = false := by simp [instOf]
@[simp] theorem in_bool_tuple {l : List D} : instOf "bool" (.tuple l) = false := by simp [instOf]
@[simp] theorem in_bool_dict {l2 : List (D × D)} : instOf "bool" (.dict l2) = false := by simp [instOf]
@[simp] theorem in_str_none  : instOf "str" .none = false := by simp [instOf]
@[simp] theorem in_str_bool {b : Bool} : instOf "str" (.bool b) = false := by simp [instOf]
@[simp] theorem in_str_int {x : Int} : instOf "str" (.int x) = false := by simp [instOf]
@[simp] theorem in_str_str {z : Str} : instOf "str" (.str z) = true := by simp [instOf]
@[simp] theorem in_str_list {l : List D} : instOf "str" (.list l) = false := by simp [instOf]
@[simp] theorem in_str_tuple {l : List D} : instOf "str" (.tuple l) = false := by simp [instOf]
@[simp] theorem in_str_dict {l2 : List (D × D)} : instOf "str" (.dict l2) = false := by simp [instOf]
@[simp] theorem in_list_none  : instOf "list" .none = false := by simp [instOf]
@[simp] theorem in_list_bool {b : Bool} : instOf "list" (.bool b) = false := by simp [instOf]
@[simp] theorem in_list_int {x : Int} : instOf "list" (.int x) = false := by simp [instOf]
@[simp] theorem in_list_str {z : Str} : instOf "list" (.str z) = false := by simp [instOf]
@[simp] theorem in_list_list {l : List D} : instOf "list" (.list l) = true := by simp [instOf]
@[simp] theorem in_list_tuple {l : List D} : instOf "list" (.tuple l) = false := by simp [instOf]
@[simp] theorem in_list_dict {l2 : List (D × D)} : instOf "list" (.dict l2) = false := by simp [instOf]
@[simp] theorem in_tuple_none  : instOf "tuple" .none = false := by simp [instOf]
@[simp] theorem in_tuple_bool {b : Bool} : instOf "tuple" (.bool b) = false := by simp [instOf]
@[simp] theorem in_tuple_int {x : Int} : instOf "tuple" (.int x) = false := by simp [instOf]
@[simp] theorem in_tuple_str {z : Str} : instOf "tuple" (.str z) = false := by simp [instOf]
@[simp] theorem in_tuple_list {l : List D} : instOf "tuple" (.list l) = false := by simp [instOf]
@[simp] theorem in_tuple_tuple {l : List D} : instOf "tuple" (.tuple l) = true := by simp [instOf]
@[simp] theorem in_tuple_dict {l2 : List (D × D)} : instOf "tuple" (.dict l2) = false := by simp [instOf]
@[simp] theorem in_dict_none  : instOf "dict" .none = false := by simp [instOf]
@[simp] theorem in_dict_bool {b : Bool} : instOf "dict" (.bool b) = false := by simp [instOf]
@[simp] theorem in_dict_int {x : Int} : instOf "dict" (.int x) = false := by simp [instOf]
@[simp] theorem in_dict_str {z : Str} : instOf "dict" (.str z) = false := by simp [instOf]
@[simp] theorem in_dict_list {l : List D} : instOf "dict" (.list l) = false := by simp [instOf]
@[simp] theorem in_dict_tuple {l : List D} : instOf "dict" (.tuple l) = false := by simp [instOf]
@[simp] theorem in_dict_dict {l2 : List (D × D)} : instOf "dict" (.dict l2) = true := by simp [instOf]
@[simp] theorem inst_1 {s : String} {d : D} : instAny [s] d = instOf s d := by simp [instAny]
@[simp] theorem inst_2 {s t : String} {d : D} : instAny [s, t] d = (instOf s d || instOf t d) := by simp [instAny]
def rcK (i : Nat) (φ : Fd) (ds : List D) (g : Gam) (k : KS) : R := match owOf g[i]? with
  | some d0 => match φ (d0 :: ds) with
    | .ok s [d1] => k s (stTo g i d1)
    | _ => .err
  | none => .err
def muK (i : Nat) (op : List D → List D → Option (D × List D)) (as : List D) (g : Gam) (k : KD) : R := match lstOf g[i]? with
  | some ds => match op ds as with
    | some (d, ds') => k d (stTo g i (.list ds'))
    | none => .err
  | none => .err
def puK (i : Nat) (d : D) (j : D) (g : Gam) (k : Gam → R) : R := match lstOf g[i]?, j with
  | some ds, .int n => match ixN ds.length n with
    | some m => k (stTo g i (.list (ds.set m d)))
    | none => .err
  | _, _ => .err
def setK (ds : List D) (n : Int) (d : D) (k : List D → R) : R := match ixN ds.length n with
  | some m => k (ds.set m d)
  | none => .err
def auK (i : Nat) (f : Int → Int → Int) (n : Int) (x : Int) (y : D) (g : Gam) (k : Gam → R) : R := match lstOf g[i]?, y with
  | some ds2, .int y => match ixN ds2.length n with
    | some m2 => k (stTo g i (.list (ds2.set m2 (.int (f x y)))))
    | none => .err
  | _, _ => .err
def auJ (i : Nat) (fe : DnD) (f : Int → Int → Int) (j : D) (g1 : Gam) (k : Gam → R) : R := match lstOf g1[i]?, j with
    | some ds, .int n => match ixN ds.length n with
      | some m => match ds[m]? with
        | some (.int x) => fe g1 fun y g2 => auK i f n x y g2 k
        | _ => .err
      | none => .err
    | _, _ => .err
def augK (ds : List D) (n : Int) (k : Int → R) : R := match ixN ds.length n with
  | some m => match ds[m]? with
    | some (.int x) => k x
    | _ => .err
  | none => .err
@[simp ↓] theorem rc0ow  {φ : Fd} : callRC 0 φ fs (.ow d :: g) kS = fs (.ow d :: g) fun ds g' => rcK 0 φ ds g' kS := rfl
@[simp ↓] theorem rk0ow  {φ : Fd} {ds : List D} : rcK 0 φ ds (.ow d :: g) kS = okR1 (φ (d :: ds)) fun s d1 => kS s (.ow d1 :: g) := by
  show (match φ (d :: ds) with | .ok s [d1] => _ | _ => _) = _
  unfold okR1; split <;> rfl
@[simp ↓] theorem mu0ow  {op : List D → List D → Option (D × List D)} {ds : List D} : mutC 0 fs op (.ow (.list ds) :: g) k = fs (.ow (.list ds) :: g) fun as g' => muK 0 op as g' k := rfl
@[simp ↓] theorem mk0ow  {op : List D → List D → Option (D × List D)} {as ds : List D} : muK 0 op as (.ow (.list ds) :: g) k = mutK (op ds as) fun r ds' => k r (.ow (.list ds') :: g) := by
  show (match op ds as with | some (d, ds') => _ | none => _) = _
  unfold mutK; split <;> rfl
@[simp ↓] theorem pu0ow  {ds : List D} : putC 0 fi d (.ow (.list ds) :: g) kT = fi (.ow (.list ds) :: g) fun j g' => puK 0 d j g' kT := rfl
@[simp ↓] theorem pk0ow  {ds : List D} {n : Int} : puK 0 d (.int n) (.ow (.list ds) :: g) kT = setK ds n d fun ds' => kT (.ow (.list ds') :: g) := by
  show (match ixN ds.length n with | some m => _ | none => _) = _
  unfold setK; split <;> rfl
@[simp ↓] theorem au0ow  {ds : List D} {f : Int → Int → Int} : augT 0 fi fe f (.ow (.list ds) :: g) kT = fi (.ow (.list ds) :: g) fun j g' => auJ 0 fe f j g' kT := rfl
@[simp ↓] theorem aj0ow  {ds : List D} {f : Int → Int → Int} {n : Int} : auJ 0 fe f (.int n) (.ow (.list ds) :: g) kT = augK ds n fun x => fe (.ow (.list ds) :: g) fun y g2 => auK 0 f n x y g2 kT := by
  show (match ixN ds.length n with | some m => _ | none => _) = _
  unfold augK; split <;> rfl
@[simp ↓] theorem ak0ow  {ds : List D} {f : Int → Int → Int} {n x y : Int} : auK 0 f n x (.int y) (.ow (.list ds) :: g) kT = setK ds n (.int (f x y)) fun ds' => kT (.ow (.list ds') :: g) := by
  show (match ixN ds.length n with | some m => _ | none => _) = _
  unfold setK; split <;> rfl
@[simp ↓] theorem rc0rf  {φ : Fd} : callRC 0 φ fs (.rf d :: g) kS = fs (.rf d :: g) fun ds g' => rcK 0 φ ds g' kS := rfl
@[simp ↓] theorem rk0rf  {φ : Fd} {ds : List D} : rcK 0 φ ds (.rf d :: g) kS = okR1 (φ (d :: ds)) fun s d1 => kS s (.rf d1 :: g) := by
  show (match φ (d :: ds) with | .ok s [d1] => _ | _ => _) = _
  unfold okR1; split <;> rfl
@[simp ↓] theorem mu0rf  {op : List D → List D → Option (D × List D)} {ds : List D} : mutC 0 fs op (.rf (.list ds) :: g) k = fs (.rf (.list ds) :: g) fun as g' => muK 0 op as g' k := rfl
@[simp ↓] theorem mk0rf  {op : List D → List D → Option (D × List D)} {as ds : List D} : muK 0 op as (.rf (.list ds) :: g) k = mutK (op ds as) fun r ds' => k r (.rf (.list ds') :: g) := by
  show (match op ds as with | some (d, ds') => _ | none => _) = _
  unfold mutK; split <;> rfl
@[simp ↓] theorem pu0rf  {ds : List D} : putC 0 fi d (.rf (.list ds) :: g) kT = fi (.rf (.list ds) :: g) fun j g' => puK 0 d j g' kT := rfl
@[simp ↓] theorem pk0rf  {ds : List D} {n : Int} : puK 0 d (.int n) (.rf (.list ds) :: g) kT = setK ds n d fun ds' => kT (.rf (.list ds') :: g) := by
  show (match ixN ds.length n with | some m => _ | none => _) = _
  unfold setK; split <;> rfl
@[simp ↓] theorem au0rf  {ds : List D} {f : Int → Int → Int} : augT 0 fi fe f (.rf (.list ds) :: g) kT = fi (.rf (.list ds) :: g) fun j g' => auJ 0 fe f j g' kT := rfl
@[simp ↓] theorem aj0rf  {ds : List D} {f : Int → Int → Int} {n : Int} : auJ 0 fe f (.int n) (.rf (.list ds) :: g) kT = augK ds n fun x => fe (.rf (.list ds) :: g) fun y g2 => auK 0 f n x y g2 kT := by
  show (match ixN ds.length n with | some m => _ | none => _) = _
  unfold augK; split <;> rfl
@[simp ↓] theorem ak0rf  {ds : List D} {f : Int → Int → Int} {n x y : Int} : auK 0 f n x (.int y) (.rf (.list ds) :: g) kT = setK ds n (.int (f x y)) fun ds' => kT (.rf (.list ds') :: g) := by
  show (match ixN ds.length n with | some m => _ | none => _) = _
  unfold setK; split <;> rfl
@[simp ↓] theorem ag0  {f : Int → Int → Int} {x : Int} : augN 0 fe f (.sh (.int x) :: g) kT = fe (.sh (.int x) :: g) fun y g' => kopO (intO y) g' fun y g' => stC 0 (.sh (.int (f x y))) g' kT := by
  show (fe _ _) = _
  congr 1; funext y g'; cases y <;> rfl
@[simp ↓] theorem rc1ow {s0 : Sl} {φ : Fd} : callRC 1 φ fs (s0 :: .ow d :: g) kS = fs (s0 :: .ow d :: g) fun ds g' => rcK 1 φ ds g' kS := rfl
@[simp ↓] theorem rk1ow {s0 : Sl} {φ : Fd} {ds : List D} : rcK 1 φ ds (s0 :: .ow d :: g) kS = okR1 (φ (d :: ds)) fun s d1 => kS s (s0 :: .ow d1 :: g) := by
  show (match φ (d :: ds) with | .ok s [d1] => _ | _ => _) = _
  unfold okR1; split <;> rfl
@[simp ↓] theorem mu1ow {s0 : Sl} {op : List D → List D → Option (D × List D)} {ds : List D} : mutC 1 fs op (s0 :: .ow (.list ds) :: g) k = fs (s0 :: .ow (.list ds) :: g) fun as g' => muK 1 op as g' k := rfl
@[simp ↓] theorem mk1ow {s0 : Sl} {op : List D → List D → Option (D × List D)} {as ds : List D} : muK 1 op as (s0 :: .ow (.list ds) :: g) k = mutK (op ds as) fun r ds' => k r (s0 :: .ow (.list ds') :: g) := by
  show (match op ds as with | some (d, ds') => _ | none => _) = _
  unfold mutK; split <;> rfl
@[simp ↓] theorem pu1ow {s0 : Sl} {ds : List D} : putC 1 fi d (s0 :: .ow (.list ds) :: g) kT = fi (s0 :: .ow (.list ds) :: g) fun j g' => puK 1 d j g' kT := rfl
@[simp ↓] theorem pk1ow {s0 : Sl} {ds : List D} {n : Int} : puK 1 d (.int n) (s0 :: .ow (.list ds) :: g) kT = setK ds n d fun ds' => kT (s0 :: .ow (.list ds') :: g) := by
  show (match ixN ds.length n with | some m => _ | none => _) = _
  unfold setK; split <;> rfl
@[simp ↓] theorem au1ow {s0 : Sl} {ds : List D} {f : Int → Int → Int} : augT 1 fi fe f (s0 :: .ow (.list ds) :: g) kT = fi (s0 :: .ow (.list ds) :: g) fun j g' => auJ 1 fe f j g' kT := rfl
@[simp ↓] theorem aj1ow {s0 : Sl} {ds : List D} {f : Int → Int → Int} {n : Int} : auJ 1 fe f (.int n) (s0 :: .ow (.list ds) :: g) kT = augK ds n fun x => fe (s0 :: .ow (.list ds) :: g) fun y g2 => auK 1 f n x y g2 kT := by
  show (match ixN ds.length n with | some m => _ | none => _) = _
  unfold augK; split <;> rfl
@[simp ↓] theorem ak1ow {s0 : Sl} {ds : List D} {f : Int → Int → Int} {n x y : Int} : auK 1 f n x (.int y) (s0 :: .ow (.list ds) :: g) kT = setK ds n (.int (f x y)) fun ds' => kT (s0 :: .ow (.list ds') :: g) := by
  show (match ixN ds.length n with | some m => _ | none => _) = _
  unfold setK; split <;> rfl
@[simp ↓] theorem rc1rf {s0 : Sl} {φ : Fd} : callRC 1 φ fs (s0 :: .rf d :: g) kS = fs (s0 :: .rf d :: g) fun ds g' => rcK 1 φ ds g' kS := rfl
@[simp ↓] theorem rk1rf {s0 : Sl} {φ : Fd} {ds : List D} : rcK 1 φ ds (s0 :: .rf d :: g) kS = okR1 (φ (d :: ds)) fun s d1 => kS s (s0 :: .rf d1 :: g) := by
  show (match φ (d :: ds) with | .ok s [d1] => _ | _ => _) = _
  unfold okR1; split <;> rfl
@[simp ↓] theorem mu1rf {s0 : Sl} {op : List D → List D → Option (D × List D)} {ds : List D} : mutC 1 fs op (s0 :: .rf (.list ds) :: g) k = fs (s0 :: .rf (.list ds) :: g) fun as g' => muK 1 op as g' k := rfl
@[simp ↓] theorem mk1rf {s0 : Sl} {op : List D → List D → Option (D × List D)} {as ds : List D} : muK 1 op as (s0 :: .rf (.list ds) :: g) k = mutK (op ds as) fun r ds' => k r (s0 :: .rf (.list ds') :: g) := by
  show (match op ds as with | some (d, ds') => _ | none => _) = _
  unfold mutK; split <;> rfl
@[simp ↓] theorem pu1rf {s0 : Sl} {ds : List D} : putC 1 fi d (s0 :: .rf (.list ds) :: g) kT = fi (s0 :: .rf (.list ds) :: g) fun j g' => puK 1 d j g' kT := rfl
@[simp ↓] theorem pk1rf {s0 : Sl} {ds : List D} {n : Int} : puK 1 d (.int n) (s0 :: .rf (.list ds) :: g) kT = setK ds n d fun ds' => kT (s0 :: .rf (.list ds') :: g) := by
  show (match ixN ds.length n with | some m => _ | none => _) = _
  unfold setK; split <;> rfl
@[simp ↓] theorem au1rf {s0 : Sl} {ds : List D} {f : Int → Int → Int} : augT 1 fi fe f (s0 :: .rf (.list ds) :: g) kT = fi (s0 :: .rf (.list ds) :: g) fun j g' => auJ 1 fe f j g' kT := rfl
@[simp ↓] theorem aj1rf {s0 : Sl} {ds : List D} {f : Int → Int → Int} {n : Int} : auJ 1 fe f (.int n) (s0 :: .rf (.list ds) :: g) kT = augK ds n fun x => fe (s0 :: .rf (.list ds) :: g) fun y g2 => auK 1 f n x y g2 kT := by
  show (match ixN ds.length n with | some m => _ | none => _) = _
  unfold augK; split <;> rfl
@[simp ↓] theorem ak1rf {s0 : Sl} {ds : List D} {f : Int → Int → Int} {n x y : Int} : auK 1 f n x (.int y) (s0 :: .rf (.list ds) :: g) kT = setK ds n (.int (f x y)) fun ds' => kT (s0 :: .rf (.list ds') :: g) := by
  show (match ixN ds.length n with | some m => _ | none => _) = _
  unfold setK; split <;> rfl
@[simp ↓] theorem ag1 {s0 : Sl} {f : Int → Int → Int} {x : Int} : augN 1 fe f (s0 :: .sh (.int x) :: g) kT = fe (s0 :: .sh (.int x) :: g) fun y g' => kopO (intO y) g' fun y g' => stC 1 (.sh (.int (f x y))) g' kT := by
  show (fe _ _) = _
  congr 1; funext y g'; cases y <;> rfl
@[simp ↓] theorem rc2ow {s0 s1 : Sl} {φ : Fd} : callRC 2 φ fs (s0 :: s1 :: .ow d :: g) kS = fs (s0 :: s1 :: .ow d :: g) fun ds g' => rcK 2 φ ds g' kS := rfl
@[simp ↓] theorem rk2ow {s0 s1 : Sl} {φ : Fd} {ds : List D} : rcK 2 φ ds (s0 :: s1 :: .ow d :: g) kS = okR1 (φ (d :: ds)) fun s d1 => kS s (s0 :: s1 :: .ow d1 :: g) := by
  show (match φ (d :: ds) with | .ok s [d1] => _ | _ => _) = _
  unfold okR1; split <;> rfl
@[simp ↓] theorem mu2ow {s0 s1 : Sl} {op : List D → List D → Option (D × List D)} {ds : List D} : mutC 2 fs op (s0 :: s1 :: .ow (.list ds) :: g) k = fs (s0 :: s1 :: .ow (.list ds) :: g) fun as g' => muK 2 op as g' k := rfl
@[simp ↓] theorem mk2ow {s0 s1 : Sl} {op : List D → List D → Option (D × List D)} {as ds : List D} : muK 2 op as (s0 :: s1 :: .ow (.list ds) :: g) k = mutK (op ds as) fun r ds' => k r (s0 :: s1 :: .ow (.list ds') :: g) := by
  show (match op ds as with | some (d, ds') => _ | none => _) = _
  unfold mutK; split <;> rfl
@[simp ↓] theorem pu2ow {s0 s1 : Sl} {ds : List D} : putC 2 fi d (s0 :: s1 :: .ow (.list ds) :: g) kT = fi (s0 :: s1 :: .ow (.list ds) :: g) fun j g' => puK 2 d j g' kT := rfl
@[simp ↓] theorem pk2ow {s0 s1 : Sl} {ds : List D} {n : Int} : puK 2 d (.int n) (s0 :: s1 :: .ow (.list ds) :: g) kT = setK ds n d fun ds' => kT (s0 :: s1 :: .ow (.list ds') :: g) := by
  show (match ixN ds.length n with | some m => _ | none => _) = _
  unfold setK; split <;> rfl
@[simp ↓] theorem au2ow {s0 s1 : Sl} {ds : List D} {f : Int → Int → Int} : augT 2 fi fe f (s0 :: s1 :: .ow (.list ds) :: g) kT = fi (s0 :: s1 :: .ow (.list ds) :: g) fun j g' => auJ 2 fe f j g' kT := rfl
@[simp ↓] theorem aj2ow {s0 s1 : Sl} {ds : List D} {f : Int → Int → Int} {n : Int} : auJ 2 fe f (.int n) (s0 :: s1 :: .ow (.list ds) :: g) kT = augK ds n fun x => fe (s0 :: s1 :: .ow (.list ds) :: g) fun y g2 => auK 2 f n x y g2 kT := by
  show (match ixN ds.length n with | some m => _ | none => _) = _
  unfold augK; split <;> rfl
@[simp ↓] theorem ak2ow {s0 s1 : Sl} {ds : List D} {f : Int → Int → Int} {n x y : Int} : auK 2 f n x (.int y) (s0 :: s1 :: .ow (.list ds) :: g) kT = setK ds n (.int (f x y)) fun ds' => kT (s0 :: s1 :: .ow (.list ds') :: g) := by
  show (match ixN ds.length n with | some m => _ | none => _) = _
  unfold setK; split <;> rfl
@[simp ↓] theorem rc2rf {s0 s1 : Sl} {φ : Fd} : callRC 2 φ fs (s0 :: s1 :: .rf d :: g) kS = fs (s0 :: s1 :: .rf d :: g) fun ds g' => rcK 2 φ ds g' kS := rfl
@[simp ↓] theorem rk2rf {s0 s1 : Sl} {φ : Fd} {ds : List D} : rcK 2 φ ds (s0 :: s1 :: .rf d :: g) kS = okR1 (φ (d :: ds)) fun s d1 => kS s (s0 :: s1 :: .rf d1 :: g) := by
  show (match φ (d :: ds) with | .ok s [d1] => _ | _ => _) = _
  unfold okR1; split <;> rfl
@[simp ↓] theorem mu2rf {s0 s1 : Sl} {op : List D → List D → Option (D × List D)} {ds : List D} : mutC 2 fs op (s0 :: s1 :: .rf (.list ds) :: g) k = fs (s0 :: s1 :: .rf (.list ds) :: g) fun as g' => muK 2 op as g' k := rfl
@[simp ↓] theorem mk2rf {s0 s1 : Sl} {op : List D → List D → Option (D × List D)} {as ds : List D} : muK 2 op as (s0 :: s1 :: .rf (.list ds) :: g) k = mutK (op ds as) fun r ds' => k r (s0 :: s1 :: .rf (.list ds') :: g) := by
  show (match op ds as with | some (d, ds') => _ | none => _) = _
  unfold mutK; split <;> rfl
@[simp ↓] theorem pu2rf {s0 s1 : Sl} {ds : List D} : putC 2 fi d (s0 :: s1 :: .rf (.list ds) :: g) kT = fi (s0 :: s1 :: .rf (.list ds) :: g) fun j g' => puK 2 d j g' kT := rfl
@[simp ↓] theorem pk2rf {s0 s1 : Sl} {ds : List D} {n : Int} : puK 2 d (.int n) (s0 :: s1 :: .rf (.list ds) :: g) kT = setK ds n d fun ds' => kT (s0 :: s1 :: .rf (.list ds') :: g) := by
  show (match ixN ds.length n with | some m => _ | none => _) = _
  unfold setK; split <;> rfl
@[simp ↓] theorem au2rf {s0 s1 : Sl} {ds : List D} {f : Int → Int → Int} : augT 2 fi fe f (s0 :: s1 :: .rf (.list ds) :: g) kT = fi (s0 :: s1 :: .rf (.list ds) :: g) fun j g' => auJ 2 fe f j g' kT := rfl
@[simp ↓] theorem aj2rf {s0 s1 : Sl} {ds : List D} {f : Int → Int → Int} {n : Int} : auJ 2 fe f (.int n) (s0 :: s1 :: .rf (.list ds) :: g) kT = augK ds n fun x => fe (s0 :: s1 :: .rf (.list ds) :: g) fun y g2 => auK 2 f n x y g2 kT := by
  show (match ixN ds.length n with | some m => _ | none => _) = _
  unfold augK; split <;> rfl
@[simp ↓] theorem ak2rf {s0 s1 : Sl} {ds : List D} {f : Int → Int → Int} {n x y : Int} : auK 2 f n x (.int y) (s0 :: s1 :: .rf (.list ds) :: g) kT = setK ds n (.int (f x y)) fun ds' => kT (s0 :: s1 :: .rf (.list ds') :: g) := by
  show (match ixN ds.length n with | some m => _ | none => _) = _
  unfold setK; split <;> rfl
@[simp ↓] theorem ag2 {s0 s1 : Sl} {f : Int → Int → Int} {x : Int} : augN 2 fe f (s0 :: s1 :: .sh (.int x) :: g) kT = fe (s0 :: s1 :: .sh (.int x) :: g) fun y g' => kopO (intO y) g' fun y g' => stC 2 (.sh (.int (f x y))) g' kT := by
  show (fe _ _) = _
  congr 1; funext y g'; cases y <;> rfl
@[simp ↓] theorem rc3ow {s0 s1 s2 : Sl} {φ : Fd} : callRC 3 φ fs (s0 :: s1 :: s2 :: .ow d :: g) kS = fs (s0 :: s1 :: s2 :: .ow d :: g) fun ds g' => rcK 3 φ ds g' kS := rfl
@[simp ↓] theorem rk3ow {s0 s1 s2 : Sl} {φ : Fd} {ds : List D} : rcK 3 φ ds (s0 :: s1 :: s2 :: .ow d :: g) kS = okR1 (φ (d :: ds)) fun s d1 => kS s (s0 :: s1 :: s2 :: .ow d1 :: g) := by
  show (match φ (d :: ds) with | .ok s [d1] => _ | _ => _) = _
  unfold okR1; split <;> rfl
@[simp ↓] theorem mu3ow {s0 s1 s2 : Sl} {op : List D → List D → Option (D × List D)} {ds : List D} : mutC 3 fs op (s0 :: s1 :: s2 :: .ow (.list ds) :: g) k = fs (s0 :: s1 :: s2 :: .ow (.list ds) :: g) fun as g' => muK 3 op as g' k := rfl
@[simp ↓] theorem mk3ow {s0 s1 s2 : Sl} {op : List D → List D → Option (D × List D)} {as ds : List D} : muK 3 op as (s0 :: s1 :: s2 :: .ow (.list ds) :: g) k = mutK (op ds as) fun r ds' => k r (s0 :: s1 :: s2 :: .ow (.list ds') :: g) := by
  show (match op ds as with | some (d, ds') => _ | none => _) = _
  unfold mutK; split <;> rfl
@[simp ↓] theorem pu3ow {s0 s1 s2 : Sl} {ds : List D} : putC 3 fi d (s0 :: s1 :: s2 :: .ow (.list ds) :: g) kT = fi (s0 :: s1 :: s2 :: .ow (.list ds) :: g) fun j g' => puK 3 d j g' kT := rfl
@[simp ↓] theorem pk3ow {s0 s1 s2 : Sl} {ds : List D} {n : Int} : puK 3 d (.int n) (s0 :: s1 :: s2 :: .ow (.list ds) :: g) kT = setK ds n d fun ds' => kT (s0 :: s1 :: s2 :: .ow (.list ds') :: g) := by
  show (match ixN ds.length n with | some m => _ | none => _) = _
  unfold setK; split <;> rfl
@[simp ↓] theorem au3ow {s0 s1 s2 : Sl} {ds : List D} {f : Int → Int → Int} : augT 3 fi fe f (s0 :: s1 :: s2 :: .ow (.list ds) :: g) kT = fi (s0 :: s1 :: s2 :: .ow (.list ds) :: g) fun j g' => auJ 3 fe f j g' kT := rfl
@[simp ↓] theorem aj3ow {s0 s1 s2 : Sl} {ds : List D} {f : Int → Int → Int} {n : Int} : auJ 3 fe f (.int n) (s0 :: s1 :: s2 :: .ow (.list ds) :: g) kT = augK ds n fun x => fe (s0 :: s1 :: s2 :: .ow (.list ds) :: g) fun y g2 => auK 3 f n x y g2 kT := by
  show (match ixN ds.length n with | some m => _ | none => _) = _
  unfold augK; split <;> rfl
@[simp ↓] theorem ak3ow {s0 s1 s2 : Sl} {ds : List D} {f : Int → Int → Int} {n x y : Int} : auK 3 f n x (.int y) (s0 :: s1 :: s2 :: .ow (.list ds) :: g) kT = setK ds n (.int (f x y)) fun ds' => kT (s0 :: s1 :: s2 :: .ow (.list ds') :: g) := by
  show (match ixN ds.length n with | some m => _ | none => _) = _
  unfold setK; split <;> rfl
@[simp ↓] theorem rc3rf {s0 s1 s2 : Sl} {φ : Fd} : callRC 3 φ fs (s0 :: s1 :: s2 :: .rf d :: g) kS = fs (s0 :: s1 :: s2 :: .rf d :: g) fun ds g' => rcK 3 φ ds g' kS := rfl
@[simp ↓] theorem rk3rf {s0 s1 s2 : Sl} {φ : Fd} {ds : List D} : rcK 3 φ ds (s0 :: s1 :: s2 :: .rf d :: g) kS = okR1 (φ (d :: ds)) fun s d1 => kS s (s0 :: s1 :: s2 :: .rf d1 :: g) := by
  show (match φ (d :: ds) with | .ok s [d1] => _ | _ => _) = _
  unfold okR1; split <;> rfl
@[simp ↓] theorem mu3rf {s0 s1 s2 : Sl} {op : List D → List D → Option (D × List D)} {ds : List D} : mutC 3 fs op (s0 :: s1 :: s2 :: .rf (.list ds) :: g) k = fs (s0 :: s1 :: s2 :: .rf (.list ds) :: g) fun as g' => muK 3 op as g' k := rfl
@[simp ↓] theorem mk3rf {s0 s1 s2 : Sl} {op : List D → List D → Option (D × List D)} {as ds : List D} : muK 3 op as (s0 :: s1 :: s2 :: .rf (.list ds) :: g) k = mutK (op ds as) fun r ds' => k r (s0 :: s1 :: s2 :: .rf (.list ds') :: g) := by
  show (match op ds as with | some (d, ds') => _ | none => _) = _
  unfold mutK; split <;> rfl
@[simp ↓] theorem pu3rf {s0 s1 s2 : Sl} {ds : List D} : putC 3 fi d (s0 :: s1 :: s2 :: .rf (.list ds) :: g) kT = fi (s0 :: s1 :: s2 :: .rf (.list ds) :: g) fun j g' => puK 3 d j g' kT := rfl
@[simp ↓] theorem pk3rf {s0 s1 s2 : Sl} {ds : List D} {n : Int} : puK 3 d (.int n) (s0 :: s1 :: s2 :: .rf (.list ds) :: g) kT = setK ds n d fun ds' => kT (s0 :: s1 :: s2 :: .rf (.list ds') :: g) := by
  show (match ixN ds.length n with | some m => _ | none => _) = _
  unfold setK; split <;> rfl
@[simp ↓] theorem au3rf {s0 s1 s2 : Sl} {ds : List D} {f : Int → Int → Int} : augT 3 fi fe f (s0 :: s1 :: s2 :: .rf (.list ds) :: g) kT = fi (s0 :: s1 :: s2 :: .rf (.list ds) :: g) fun j g' => auJ 3 fe f j g' kT := rfl
@[simp ↓] theorem aj3rf {s0 s1 s2 : Sl} {ds : List D} {f : Int → Int → Int} {n : Int} : auJ 3 fe f (.int n) (s0 :: s1 :: s2 :: .rf (.list ds) :: g) kT = augK ds n fun x => fe (s0 :: s1 :: s2 :: .rf (.list ds) :: g) fun y g2 => auK 3 f n x y g2 kT := by
  show (match ixN ds.length n with | some m => _ | none => _) = _
  unfold augK; split <;> rfl
@[simp ↓] theorem ak3rf {s0 s1 s2 : Sl} {ds : List D} {f : Int → Int → Int} {n x y : Int} : auK 3 f n x (.int y) (s0 :: s1 :: s2 :: .rf (.list ds) :: g) kT = setK ds n (.int (f x y)) fun ds' => kT (s0 :: s1 :: s2 :: .rf (.list ds') :: g) := by
  show (match ixN ds.length n with | some m => _ | none => _) = _
  unfold setK; split <;> rfl
@[simp ↓] theorem ag3 {s0 s1 s2 : Sl} {f : Int → Int → Int} {x : Int} : augN 3 fe f (s0 :: s1 :: s2 :: .sh (.int x) :: g) kT = fe (s0 :: s1 :: s2 :: .sh (.int x) :: g) fun y g' => kopO (intO y) g' fun y g' => stC 3 (.sh (.int (f x y))) g' kT := by
  show (fe _ _) = _
  congr 1; funext y g'; cases y <;> rfl
@[simp ↓] theorem rc4ow {s0 s1 s2 s3 : Sl} {φ : Fd} : callRC 4 φ fs (s0 :: s1 :: s2 :: s3 :: .ow d :: g) kS = fs (s0 :: s1 :: s2 :: s3 :: .ow d :: g) fun ds g' => rcK 4 φ ds g' kS := rfl
@[simp ↓] theorem rk4ow {s0 s1 s2 s3 : Sl} {φ : Fd} {ds : List D} : rcK 4 φ ds (s0 :: s1 :: s2 :: s3 :: .ow d :: g) kS = okR1 (φ (d :: ds)) fun s d1 => kS s (s0 :: s1 :: s2 :: s3 :: .ow d1 :: g) := by
  show (match φ (d :: ds) with | .ok s [d1] => _ | _ => _) = _
  unfold okR1; split <;> rfl
@[simp ↓] theorem mu4ow {s0 s1 s2 s3 : Sl} {op : List D → List D → Option (D × List D)} {ds : List D} : mutC 4 fs op (s0 :: s1 :: s2 :: s3 :: .ow (.list ds) :: g) k = fs (s0 :: s1 :: s2 :: s3 :: .ow (.list ds) :: g) fun as g' => muK 4 op as g' k := rfl
@[simp ↓] theorem mk4ow {s0 s1 s2 s3 : Sl} {op : List D → List D → Option (D × List D)} {as ds : List D} : muK 4 op as (s0 :: s1 :: s2 :: s3 :: .ow (.list ds) :: g) k = mutK (op ds as) fun r ds' => k r (s0 :: s1 :: s2 :: s3 :: .ow (.list ds') :: g) := by
  show (match op ds as with | some (d, ds') => _ | none => _) = _
  unfold mutK; split <;> rfl
@[simp ↓] theorem pu4ow {s0 s1 s2 s3 : Sl} {ds : List D} : putC 4 fi d (s0 :: s1 :: s2 :: s3 :: .ow (.list ds) :: g) kT = fi (s0 :: s1 :: s2 :: s3 :: .ow (.list ds) :: g) fun j g' => puK 4 d j g' kT := rfl
@[simp ↓] theorem pk4ow {s0 s1 s2 s3 : Sl} {ds : List D} {n : Int} : puK 4 d (.int n) (s0 :: s1 :: s2 :: s3 :: .ow (.list ds) :: g) kT = setK ds n d fun ds' => kT (s0 :: s1 :: s2 :: s3 :: .ow (.list ds') :: g) := by
  show (match ixN ds.length n with | some m => _ | none => _) = _
  unfold setK; split <;> rfl
@[simp ↓] theorem au4ow {s0 s1 s2 s3 : Sl} {ds : List D} {f : Int → Int → Int} : augT 4 fi fe f (s0 :: s1 :: s2 :: s3 :: .ow (.list ds) :: g) kT = fi (s0 :: s1 :: s2 :: s3 :: .ow (.list ds) :: g) fun j g' => auJ 4 fe f j g' kT := rfl
@[simp ↓] theorem aj4ow {s0 s1 s2 s3 : Sl} {ds : List D} {f : Int → Int → Int} {n : Int} : auJ 4 fe f (.int n) (s0 :: s1 :: s2 :: s3 :: .ow (.list ds) :: g) kT = augK ds n fun x => fe (s0 :: s1 :: s2 :: s3 :: .ow (.list ds) :: g) fun y g2 => auK 4 f n x y g2 kT := by
  show (match ixN ds.length n with | some m => _ | none => _) = _
  unfold augK; split <;> rfl
@[simp ↓] theorem ak4ow {s0 s1 s2 s3 : Sl} {ds : List D} {f : Int → Int → Int} {n x y : Int} : auK 4 f n x (.int y) (s0 :: s1 :: s2 :: s3 :: .ow (.list ds) :: g) kT = setK ds n (.int (f x y)) fun ds' => kT (s0 :: s1 :: s2 :: s3 :: .ow (.list ds') :: g) := by
  show (match ixN ds.length n with | some m => _ | none => _) = _
  unfold setK; split <;> rfl
@[simp ↓] theorem rc4rf {s0 s1 s2 s3 : Sl} {φ : Fd} : callRC 4 φ fs (s0 :: s1 :: s2 :: s3 :: .rf d :: g) kS = fs (s0 :: s1 :: s2 :: s3 :: .rf d :: g) fun ds g' => rcK 4 φ ds g' kS := rfl
@[simp ↓] theorem rk4rf {s0 s1 s2 s3 : Sl} {φ : Fd} {ds : List D} : rcK 4 φ ds (s0 :: s1 :: s2 :: s3 :: .rf d :: g) kS = okR1 (φ (d :: ds)) fun s d1 => kS s (s0 :: s1 :: s2 :: s3 :: .rf d1 :: g) := by
  show (match φ (d :: ds) with | .ok s [d1] => _ | _ => _) = _
  unfold okR1; split <;> rfl
@[simp ↓] theorem mu4rf {s0 s1 s2 s3 : Sl} {op : List D → List D → Option (D × List D)} {ds : List D} : mutC 4 fs op (s0 :: s1 :: s2 :: s3 :: .rf (.list ds) :: g) k = fs (s0 :: s1 :: s2 :: s3 :: .rf (.list ds) :: g) fun as g' => muK 4 op as g' k := rfl
@[simp ↓] theorem mk4rf {s0 s1 s2 s3 : Sl} {op : List D → List D → Option (D × List D)} {as ds : List D} : muK 4 op as (s0 :: s1 :: s2 :: s3 :: .rf (.list ds) :: g) k = mutK (op ds as) fun r ds' => k r (s0 :: s1 :: s2 :: s3 :: .rf (.list ds') :: g) := by
  show (match op ds as with | some (d, ds') => _ | none => _) = _
  unfold mutK; split <;> rfl
@[simp ↓] theorem pu4rf {s0 s1 s2 s3 : Sl} {ds : List D} : putC 4 fi d (s0 :: s1 :: s2 :: s3 :: .rf (.list ds) :: g) kT = fi (s0 :: s1 :: s2 :: s3 :: .rf (.list ds) :: g) fun j g' => puK 4 d j g' kT := rfl
@[simp ↓] theorem pk4rf {s0 s1 s2 s3 : Sl} {ds : List D} {n : Int} : puK 4 d (.int n) (s0 :: s1 :: s2 :: s3 :: .rf (.list ds) :: g) kT = setK ds n d fun ds' => kT (s0 :: s1 :: s2 :: s3 :: .rf (.list ds') :: g) := by
  show (match ixN ds.length n with | some m => _ | none => _) = _
  unfold setK; split <;> rfl
@[simp ↓] theorem au4rf {s0 s1 s2 s3 : Sl} {ds : List D} {f : Int → Int → Int} : augT 4 fi fe f (s0 :: s1 :: s2 :: s3 :: .rf (.list ds) :: g) kT = fi (s0 :: s1 :: s2 :: s3 :: .rf (.list ds) :: g) fun j g' => auJ 4 fe f j g' kT := rfl
@[simp ↓] theorem aj4rf {s0 s1 s2 s3 : Sl} {ds : List D} {f : Int → Int → Int} {n : Int} : auJ 4 fe f (.int n) (s0 :: s1 :: s2 :: s3 :: .rf (.list ds) :: g) kT = augK ds n fun x => fe (s0 :: s1 :: s2 :: s3 :: .rf (.list ds) :: g) fun y g2 => auK 4 f n x y g2 kT := by
  show (match ixN ds.length n with | some m => _ | none => _) = _
  unfold augK; split <;> rfl
@[simp ↓] theorem ak4rf {s0 s1 s2 s3 : Sl} {ds : List D} {f : Int → Int → Int} {n x y : Int} : auK 4 f n x (.int y) (s0 :: s1 :: s2 :: s3 :: .rf (.list ds) :: g) kT = setK ds n (.int (f x y)) fun ds' => kT (s0 :: s1 :: s2 :: s3 :: .rf (.list ds') :: g) := by
  show (match ixN ds.length n with | some m => _ | none => _) = _
  unfold setK; split <;> rfl
@[simp ↓] theorem ag4 {s0 s1 s2 s3 : Sl} {f : Int → Int → Int} {x : Int} : augN 4 fe f (s0 :: s1 :: s2 :: s3 :: .sh (.int x) :: g) kT = fe (s0 :: s1 :: s2 :: s3 :: .sh (.int x) :: g) fun y g' => kopO (intO y) g' fun y g' => stC 4 (.sh (.int (f x y))) g' kT := by
  show (fe _ _) = _
  congr 1; funext y g'; cases y <;> rfl
@[simp ↓] theorem rc5ow {s0 s1 s2 s3 s4 : Sl} {φ : Fd} : callRC 5 φ fs (s0 :: s1 :: s2 :: s3 :: s4 :: .ow d :: g) kS = fs (s0 :: s1 :: s2 :: s3 :: s4 :: .ow d :: g) fun ds g' => rcK 5 φ ds g' kS := rfl
@[simp ↓] theorem rk5ow {s0 s1 s2 s3 s4 : Sl} {φ : Fd} {ds : List D} : rcK 5 φ ds (s0 :: s1 :: s2 :: s3 :: s4 :: .ow d :: g) kS = okR1 (φ (d :: ds)) fun s d1 => kS s (s0 :: s1 :: s2 :: s3 :: s4 :: .ow d1 :: g) := by
  show (match φ (d :: ds) with | .ok s [d1] => _ | _ => _) = _
  unfold okR1; split <;> rfl
@[simp ↓] theorem mu5ow {s0 s1 s2 s3 s4 : Sl} {op : List D → List D → Option (D × List D)} {ds : List D} : mutC 5 fs op (s0 :: s1 :: s2 :: s3 :: s4 :: .ow (.list ds) :: g) k = fs (s0 :: s1 :: s2 :: s3 :: s4 :: .ow (.list ds) :: g) fun as g' => muK 5 op as g' k := rfl
@[simp ↓] theorem mk5ow {s0 s1 s2 s3 s4 : Sl} {op : List D → List D → Option (D × List D)} {as ds : List D} : muK 5 op as (s0 :: s1 :: s2 :: s3 :: s4 :: .ow (.list ds) :: g) k = mutK (op ds as) fun r ds' => k r (s0 :: s1 :: s2 :: s3 :: s4 :: .ow (.list ds') :: g) := by
  show (match op ds as with | some (d, ds') => _ | none => _) = _
  unfold mutK; split <;> rfl
@[simp ↓] theorem pu5ow {s0 s1 s2 s3 s4 : Sl} {ds : List D} : putC 5 fi d (s0 :: s1 :: s2 :: s3 :: s4 :: .ow (.list ds) :: g) kT = fi (s0 :: s1 :: s2 :: s3 :: s4 :: .ow (.list ds) :: g) fun j g' => puK 5 d j g' kT := rfl
@[simp ↓] theorem pk5ow {s0 s1 s2 s3 s4 : Sl} {ds : List D} {n : Int} : puK 5 d (.int n) (s0 :: s1 :: s2 :: s3 :: s4 :: .ow (.list ds) :: g) kT = setK ds n d fun ds' => kT (s0 :: s1 :: s2 :: s3 :: s4 :: .ow (.list ds') :: g) := by
  show (match ixN ds.length n with | some m => _ | none => _) = _
  unfold setK; split <;> rfl
@[simp ↓] theorem au5ow {s0 s1 s2 s3 s4 : Sl} {ds : List D} {f : Int → Int → Int} : augT 5 fi fe f (s0 :: s1 :: s2 :: s3 :: s4 :: .ow (.list ds) :: g) kT = fi (s0 :: s1 :: s2 :: s3 :: s4 :: .ow (.list ds) :: g) fun j g' => auJ 5 fe f j g' kT := rfl
@[simp ↓] theorem aj5ow {s0 s1 s2 s3 s4 : Sl} {ds : List D} {f : Int → Int → Int} {n : Int} : auJ 5 fe f (.int n) (s0 :: s1 :: s2 :: s3 :: s4 :: .ow (.list ds) :: g) kT = augK ds n fun x => fe (s0 :: s1 :: s2 :: s3 :: s4 :: .ow (.list ds) :: g) fun y g2 => auK 5 f n x y g2 kT := by
  show (match ixN ds.length n with | some m => _ | none => _) = _
  unfold augK; split <;> rfl
@[simp ↓] theorem ak5ow {s0 s1 s2 s3 s4 : Sl} {ds : List D} {f : Int → Int → Int} {n x y : Int} : auK 5 f n x (.int y) (s0 :: s1 :: s2 :: s3 :: s4 :: .ow (.list ds) :: g) kT = setK ds n (.int (f x y)) fun ds' => kT (s0 :: s1 :: s2 :: s3 :: s4 :: .ow (.list ds') :: g) := by
  show (match ixN ds.length n with | some m => _ | none => _) = _
  unfold setK; split <;> rfl
@[simp ↓] theorem rc5rf {s0 s1 s2 s3 s4 : Sl} {φ : Fd} : callRC 5 φ fs (s0 :: s1 :: s2 :: s3 :: s4 :: .rf d :: g) kS = fs (s0 :: s1 :: s2 :: s3 :: s4 :: .rf d :: g) fun ds g' => rcK 5 φ ds g' kS := rfl
@[simp ↓] theorem rk5rf {s0 s1 s2 s3 s4 : Sl} {φ : Fd} {ds : List D} : rcK 5 φ ds (s0 :: s1 :: s2 :: s3 :: s4 :: .rf d :: g) kS = okR1 (φ (d :: ds)) fun s d1 => kS s (s0 :: s1 :: s2 :: s3 :: s4 :: .rf d1 :: g) := by
  show (match φ (d :: ds) with | .ok s [d1] => _ | _ => _) = _
  unfold okR1; split <;> rfl
@[simp ↓] theorem mu5rf {s0 s1 s2 s3 s4 : Sl} {op : List D → List D → Option (D × List D)} {ds : List D} : mutC 5 fs op (s0 :: s1 :: s2 :: s3 :: s4 :: .rf (.list ds) :: g) k = fs (s0 :: s1 :: s2 :: s3 :: s4 :: .rf (.list ds) :: g) fun as g' => muK 5 op as g' k := rfl
@[simp ↓] theorem mk5rf {s0 s1 s2 s3 s4 : Sl} {op : List D → List D → Option (D × List D)} {as ds : List D} : muK 5 op as (s0 :: s1 :: s2 :: s3 :: s4 :: .rf (.list ds) :: g) k = mutK (op ds as) fun r ds' => k r (s0 :: s1 :: s2 :: s3 :: s4 :: .rf (.list ds') :: g) := by
  show (match op ds as with | some (d, ds') => _ | none => _) = _
  unfold mutK; split <;> rfl
@[simp ↓] theorem pu5rf {s0 s1 s2 s3 s4 : Sl} {ds : List D} : putC 5 fi d (s0 :: s1 :: s2 :: s3 :: s4 :: .rf (.list ds) :: g) kT = fi (s0 :: s1 :: s2 :: s3 :: s4 :: .rf (.list ds) :: g) fun j g' => puK 5 d j g' kT := rfl
@[simp ↓] theorem pk5rf {s0 s1 s2 s3 s4 : Sl} {ds : List D} {n : Int} : puK 5 d (.int n) (s0 :: s1 :: s2 :: s3 :: s4 :: .rf (.list ds) :: g) kT = setK ds n d fun ds' => kT (s0 :: s1 :: s2 :: s3 :: s4 :: .rf (.list ds') :: g) := by
  show (match ixN ds.length n with | some m => _ | none => _) = _
  unfold setK; split <;> rfl
@[simp ↓] theorem au5rf {s0 s1 s2 s3 s4 : Sl} {ds : List D} {f : Int → Int → Int} : augT 5 fi fe f (s0 :: s1 :: s2 :: s3 :: s4 :: .rf (.list ds) :: g) kT = fi (s0 :: s1 :: s2 :: s3 :: s4 :: .rf (.list ds) :: g) fun j g' => auJ 5 fe f j g' kT := rfl
@[simp ↓] theorem aj5rf {s0 s1 s2 s3 s4 : Sl} {ds : List D} {f : Int → Int → Int} {n : Int} : auJ 5 fe f (.int n) (s0 :: s1 :: s2 :: s3 :: s4 :: .rf (.list ds) :: g) kT = augK ds n fun x => fe (s0 :: s1 :: s2 :: s3 :: s4 :: .rf (.list ds) :: g) fun y g2 => auK 5 f n x y g2 kT := by
  show (match ixN ds.length n with | some m => _ | none => _) = _
  unfold augK; split <;> rfl
@[simp ↓] theorem ak5rf {s0 s1 s2 s3 s4 : Sl} {ds : List D} {f : Int → Int → Int} {n x y : Int} : auK 5 f n x (.int y) (s0 :: s1 :: s2 :: s3 :: s4 :: .rf (.list ds) :: g) kT = setK ds n (.int (f x y)) fun ds' => kT (s0 :: s1 :: s2 :: s3 :: s4 :: .rf (.list ds') :: g) := by
  show (match ixN ds.length n with | some m => _ | none => _) = _
  unfold setK; split <;> rfl
@[simp ↓] theorem ag5 {s0 s1 s2 s3 s4 : Sl} {f : Int → Int → Int} {x : Int} : augN 5 fe f (s0 :: s1 :: s2 :: s3 :: s4 :: .sh (.int x) :: g) kT = fe (s0 :: s1 :: s2 :: s3 :: s4 :: .sh (.int x) :: g) fun y g' => kopO (intO y) g' fun y g' => stC 5 (.sh (.int (f x y))) g' kT := by
  show (fe _ _) = _
  congr 1; funext y g'; cases y <;> rfl
@[simp ↓] theorem rc6ow {s0 s1 s2 s3 s4 s5 : Sl} {φ : Fd} : callRC 6 φ fs (s0 :: s1 :: s2 :: s3 :: s4 :: s5 :: .ow d :: g) kS = fs (s0 :: s1 :: s2 :: s3 :: s4 :: s5 :: .ow d :: g) fun ds g' => rcK 6 φ ds g' kS := rfl
@[simp ↓] theorem rk6ow {s0 s1 s2 s3 s4 s5 : Sl} {φ : Fd} {ds : List D} : rcK 6 φ ds (s0 :: s1 :: s2 :: s3 :: s4 :: s5 :: .ow d :: g) kS = okR1 (φ (d :: ds)) fun s d1 => kS s (s0 :: s1 :: s2 :: s3 :: s4 :: s5 :: .ow d1 :: g) := by
  show (match φ (d :: ds) with | .ok s [d1] => _ | _ => _) = _
  unfold okR1; split <;> rfl
@[simp ↓] theorem mu6ow {s0 s1 s2 s3 s4 s5 : Sl} {op : List D → List D → Option (D × List D)} {ds : List D} : mutC 6 fs op (s0 :: s1 :: s2 :: s3 :: s4 :: s5 :: .ow (.list ds) :: g) k = fs (s0 :: s1 :: s2 :: s3 :: s4 :: s5 :: .ow (.list ds) :: g) fun as g' => muK 6 op as g' k := rfl
@[simp ↓] theorem mk6ow {s0 s1 s2 s3 s4 s5 : Sl} {op : List D → List D → Option (D × List D)} {as ds : List D} : muK 6 op as (s0 :: s1 :: s2 :: s3 :: s4 :: s5 :: .ow (.list ds) :: g) k = mutK (op ds as) fun r ds' => k r (s0 :: s1 :: s2 :: s3 :: s4 :: s5 :: .ow (.list ds') :: g) := by
  show (match op ds as with | some (d, ds') => _ | none => _) = _
  unfold mutK; split <;> rfl
@[simp ↓] theorem pu6ow {s0 s1 s2 s3 s4 s5 : Sl} {ds : List D} : putC 6 fi d (s0 :: s1 :: s2 :: s3 :: s4 :: s5 :: .ow (.list ds) :: g) kT = fi (s0 :: s1 :: s2 :: s3 :: s4 :: s5 :: .ow (.list ds) :: g) fun j g' => puK 6 d j g' kT := rfl
@[simp ↓] theorem pk6ow {s0 s1 s2 s3 s4 s5 : Sl} {ds : List D} {n : Int} : puK 6 d (.int n) (s0 :: s1 :: s2 :: s3 :: s4 :: s5 :: .ow (.list ds) :: g) kT = setK ds n d fun ds' => kT (s0 :: s1 :: s2 :: s3 :: s4 :: s5 :: .ow (.list ds') :: g) := by
  show (match ixN ds.length n with | some m => _ | none => _) = _
  unfold setK; split <;> rfl
@[simp ↓] theorem au6ow {s0 s1 s2 s3 s4 s5 : Sl} {ds : List D} {f : Int → Int → Int} : augT 6 fi fe f (s0 :: s1 :: s2 :: s3 :: s4 :: s5 :: .ow (.list ds) :: g) kT = fi (s0 :: s1 :: s2 :: s3 :: s4 :: s5 :: .ow (.list ds) :: g) fun j g' => auJ 6 fe f j g' kT := rfl
@[simp ↓] theorem aj6ow {s0 s1 s2 s3 s4 s5 : Sl} {ds : List D} {f : Int → Int → Int} {n : Int} : auJ 6 fe f (.int n) (s0 :: s1 :: s2 :: s3 :: s4 :: s5 :: .ow (.list ds) :: g) kT = augK ds n fun x => fe (s0 :: s1 :: s2 :: s3 :: s4 :: s5 :: .ow (.list ds) :: g) fun y g2 => auK 6 f n x y g2 kT := by
  show (match ixN ds.length n with | some m => _ | none => _) = _
  unfold augK; split <;> rfl
@[simp ↓] theorem ak6ow {s0 s1 s2 s3 s4 s5 : Sl} {ds : List D} {f : Int → Int → Int} {n x y : Int} : auK 6 f n x (.int y) (s0 :: s1 :: s2 :: s3 :: s4 :: s5 :: .ow (.list ds) :: g) kT = setK ds n (.int (f x y)) fun ds' => kT (s0 :: s1 :: s2 :: s3 :: s4 :: s5 :: .ow (.list ds') :: g) := by
  show (match ixN ds.length n with | some m => _ | none => _) = _
  unfold setK; split <;> rfl
@[simp ↓] theorem rc6rf {s0 s1 s2 s3 s4 s5 : Sl} {φ : Fd} : callRC 6 φ fs (s0 :: s1 :: s2 :: s3 :: s4 :: s5 :: .rf d :: g) kS = fs (s0 :: s1 :: s2 :: s3 :: s4 :: s5 :: .rf d :: g) fun ds g' => rcK 6 φ ds g' kS := rfl
@[simp ↓] theorem rk6rf {s0 s1 s2 s3 s4 s5 : Sl} {φ : Fd} {ds : List D} : rcK 6 φ ds (s0 :: s1 :: s2 :: s3 :: s4 :: s5 :: .rf d :: g) kS = okR1 (φ (d :: ds)) fun s d1 => kS s (s0 :: s1 :: s2 :: s3 :: s4 :: s5 :: .rf d1 :: g) := by
  show (match φ (d :: ds) with | .ok s [d1] => _ | _ => _) = _
  unfold okR1; split <;> rfl
@[simp ↓] theorem mu6rf {s0 s1 s2 s3 s4 s5 : Sl} {op : List D → List D → Option (D × List D)} {ds : List D} : mutC 6 fs op (s0 :: s1 :: s2 :: s3 :: s4 :: s5 :: .rf (.list ds) :: g) k = fs (s0 :: s1 :: s2 :: s3 :: s4 :: s5 :: .rf (.list ds) :: g) fun as g' => muK 6 op as g' k := rfl
@[simp ↓] theorem mk6rf {s0 s1 s2 s3 s4 s5 : Sl} {op : List D → List D → Option (D × List D)} {as ds : List D} : muK 6 op as (s0 :: s1 :: s2 :: s3 :: s4 :: s5 :: .rf (.list ds) :: g) k = mutK (op ds as) fun r ds' => k r (s0 :: s1 :: s2 :: s3 :: s4 :: s5 :: .rf (.list ds') :: g) := by
  show (match op ds as with | some (d, ds') => _ | none => _) = _
  unfold mutK; split <;> rfl
@[simp ↓] theorem pu6rf {s0 s1 s2 s3 s4 s5 : Sl} {ds : List D} : putC 6 fi d (s0 :: s1 :: s2 :: s3 :: s4 :: s5 :: .rf (.list ds) :: g) kT = fi (s0 :: s1 :: s2 :: s3 :: s4 :: s5 :: .rf (.list ds) :: g) fun j g' => puK 6 d j g' kT := rfl
@[simp ↓] theorem pk6rf {s0 s1 s2 s3 s4 s5 : Sl} {ds : List D} {n : Int} : puK 6 d (.int n) (s0 :: s1 :: s2 :: s3 :: s4 :: s5 :: .rf (.list ds) :: g) kT = setK ds n d fun ds' => kT (s0 :: s1 :: s2 :: s3 :: s4 :: s5 :: .rf (.list ds') :: g) := by
  show (match ixN ds.length n with | some m => _ | none => _) = _
  unfold setK; split <;> rfl
@[simp ↓] theorem au6rf {s0 s1 s2 s3 s4 s5 : Sl} {ds : List D} {f : Int → Int → Int} : augT 6 fi fe f (s0 :: s1 :: s2 :: s3 :: s4 :: s5 :: .rf (.list ds) :: g) kT = fi (s0 :: s1 :: s2 :: s3 :: s4 :: s5 :: .rf (.list ds) :: g) fun j g' => auJ 6 fe f j g' kT := rfl
@[simp ↓] theorem aj6rf {s0 s1 s2 s3 s4 s5 : Sl} {ds : List D} {f : Int → Int → Int} {n : Int} : auJ 6 fe f (.int n) (s0 :: s1 :: s2 :: s3 :: s4 :: s5 :: .rf (.list ds) :: g) kT = augK ds n fun x => fe (s0 :: s1 :: s2 :: s3 :: s4 :: s5 :: .rf (.list ds) :: g) fun y g2 => auK 6 f n x y g2 kT := by
  show (match ixN ds.length n with | some m => _ | none => _) = _
  unfold augK; split <;> rfl
@[simp ↓] theorem ak6rf {s0 s1 s2 s3 s4 s5 : Sl} {ds : List D} {f : Int → Int → Int} {n x y : Int} : auK 6 f n x (.int y) (s0 :: s1 :: s2 :: s3 :: s4 :: s5 :: .rf (.list ds) :: g) kT = setK ds n (.int (f x y)) fun ds' => kT (s0 :: s1 :: s2 :: s3 :: s4 :: s5 :: .rf (.list ds') :: g) := by
  show (match ixN ds.length n with | some m => _ | none => _) = _
  unfold setK; split <;> rfl
@[simp ↓] theorem ag6 {s0 s1 s2 s3 s4 s5 : Sl} {f : Int → Int → Int} {x : Int} : augN 6 fe f (s0 :: s1 :: s2 :: s3 :: s4 :: s5 :: .sh (.int x) :: g) kT = fe (s0 :: s1 :: s2 :: s3 :: s4 :: s5 :: .sh (.int x) :: g) fun y g' => kopO (intO y) g' fun y g' => stC 6 (.sh (.int (f x y))) g' kT := by
  show (fe _ _) = _
  congr 1; funext y g'; cases y <;> rfl
@[simp ↓] theorem rc7ow {s0 s1 s2 s3 s4 s5 s6 : Sl} {φ : Fd} : callRC 7 φ fs (s0 :: s1 :: s2 :: s3 :: s4 :: s5 :: s6 :: .ow d :: g) kS = fs (s0 :: s1 :: s2 :: s3 :: s4 :: s5 :: s6 :: .ow d :: g) fun ds g' => rcK 7 φ ds g' kS := rfl
@[simp ↓] theorem rk7ow {s0 s1 s2 s3 s4 s5 s6 : Sl} {φ : Fd} {ds : List D} : rcK 7 φ ds (s0 :: s1 :: s2 :: s3 :: s4 :: s5 :: s6 :: .ow d :: g) kS = okR1 (φ (d :: ds)) fun s d1 => kS s (s0 :: s1 :: s2 :: s3 :: s4 :: s5 :: s6 :: .ow d1 :: g) := by
  show (match φ (d :: ds) with | .ok s [d1] => _ | _ => _) = _
  unfold okR1; split <;> rfl
@[simp ↓] theorem mu7ow {s0 s1 s2 s3 s4 s5 s6 : Sl} {op : List D → List D → Option (D × List D)} {ds : List D} : mutC 7 fs op (s0 :: s1 :: s2 :: s3 :: s4 :: s5 :: s6 :: .ow (.list ds) :: g) k = fs (s0 :: s1 :: s2 :: s3 :: s4 :: s5 :: s6 :: .ow (.list ds) :: g) fun as g' => muK 7 op as g' k := rfl
@[simp ↓] theorem mk7ow {s0 s1 s2 s3 s4 s5 s6 : Sl} {op : List D → List D → Option (D × List D)} {as ds : List D} : muK 7 op as (s0 :: s1 :: s2 :: s3 :: s4 :: s5 :: s6 :: .ow (.list ds) :: g) k = mutK (op ds as) fun r ds' => k r (s0 :: s1 :: s2 :: s3 :: s4 :: s5 :: s6 :: .ow (.list ds') :: g) := by
  show (match op ds as with | some (d, ds') => _ | none => _) = _
  unfold mutK; split <;> rfl
@[simp ↓] theorem pu7ow {s0 s1 s2 s3 s4 s5 s6 : Sl} {ds : List D} : putC 7 fi d (s0 :: s1 :: s2 :: s3 :: s4 :: s5 :: s6 :: .ow (.list ds) :: g) kT = fi (s0 :: s1 :: s2 :: s3 :: s4 :: s5 :: s6 :: .ow (.list ds) :: g) fun j g' => puK 7 d j g' kT := rfl
@[simp ↓] theorem pk7ow {s0 s1 s2 s3 s4 s5 s6 : Sl} {ds : List D} {n : Int} : puK 7 d (.int n) (s0 :: s1 :: s2 :: s3 :: s4 :: s5 :: s6 :: .ow (.list ds) :: g) kT = setK ds n d fun ds' => kT (s0 :: s1 :: s2 :: s3 :: s4 :: s5 :: s6 :: .ow (.list ds') :: g) := by
  show (match ixN ds.length n with | some m => _ | none => _) = _
  unfold setK; split <;> rfl
@[simp ↓] theorem au7ow {s0 s1 s2 s3 s4 s5 s6 : Sl} {ds : List D} {f : Int → Int → Int} : augT 7 fi fe f (s0 :: s1 :: s2 :: s3 :: s4 :: s5 :: s6 :: .ow (.list ds) :: g) kT = fi (s0 :: s1 :: s2 :: s3 :: s4 :: s5 :: s6 :: .ow (.list ds) :: g) fun j g' => auJ 7 fe f j g' kT := rfl
@[simp ↓] theorem aj7ow {s0 s1 s2 s3 s4 s5 s6 : Sl} {ds : List D} {f : Int → Int → Int} {n : Int} : auJ 7 fe f (.int n) (s0 :: s1 :: s2 :: s3 :: s4 :: s5 :: s6 :: .ow (.list ds) :: g) kT = augK ds n fun x => fe (s0 :: s1 :: s2 :: s3 :: s4 :: s5 :: s6 :: .ow (.list ds) :: g) fun y g2 => auK 7 f n x y g2 kT := by
  show (match ixN ds.length n with | some m => _ | none => _) = _
  unfold augK; split <;> rfl
@[simp ↓] theorem ak7ow {s0 s1 s2 s3 s4 s5 s6 : Sl} {ds : List D} {f : Int → Int → Int} {n x y : Int} : auK 7 f n x (.int y) (s0 :: s1 :: s2 :: s3 :: s4 :: s5 :: s6 :: .ow (.list ds) :: g) kT = setK ds n (.int (f x y)) fun ds' => kT (s0 :: s1 :: s2 :: s3 :: s4 :: s5 :: s6 :: .ow (.list ds') :: g) := by
  show (match ixN ds.length n with | some m => _ | none => _) = _
  unfold setK; split <;> rfl
@[simp ↓] theorem rc7rf {s0 s1 s2 s3 s4 s5 s6 : Sl} {φ : Fd} : callRC 7 φ fs (s0 :: s1 :: s2 :: s3 :: s4 :: s5 :: s6 :: .rf d :: g) kS = fs (s0 :: s1 :: s2 :: s3 :: s4 :: s5 :: s6 :: .rf d :: g) fun ds g' => rcK 7 φ ds g' kS := rfl
@[simp ↓] theorem rk7rf {s0 s1 s2 s3 s4 s5 s6 : Sl} {φ : Fd} {ds : List D} : rcK 7 φ ds (s0 :: s1 :: s2 :: s3 :: s4 :: s5 :: s6 :: .rf d :: g) kS = okR1 (φ (d :: ds)) fun s d1 => kS s (s0 :: s1 :: s2 :: s3 :: s4 :: s5 :: s6 :: .rf d1 :: g) := by
  show (match φ (d :: ds) with | .ok s [d1] => _ | _ => _) = _
  unfold okR1; split <;> rfl
@[simp ↓] theorem mu7rf {s0 s1 s2 s3 s4 s5 s6 : Sl} {op : List D → List D → Option (D × List D)} {ds : List D} : mutC 7 fs op (s0 :: s1 :: s2 :: s3 :: s4 :: s5 :: s6 :: .rf (.list ds) :: g) k = fs (s0 :: s1 :: s2 :: s3 :: s4 :: s5 :: s6 :: .rf (.list ds) :: g) fun as g' => muK 7 op as g' k := rfl
@[simp ↓] theorem mk7rf {s0 s1 s2 s3 s4 s5 s6 : Sl} {op : List D → List D → Option (D × List D)} {as ds : List D} : muK 7 op as (s0 :: s1 :: s2 :: s3 :: s4 :: s5 :: s6 :: .rf (.list ds) :: g) k = mutK (op ds as) fun r ds' => k r (s0 :: s1 :: s2 :: s3 :: s4 :: s5 :: s6 :: .rf (.list ds') :: g) := by
  show (match op ds as with | some (d, ds') => _ | none => _) = _
  unfold mutK; split <;> rfl
@[simp ↓] theorem pu7rf {s0 s1 s2 s3 s4 s5 s6 : Sl} {ds : List D} : putC 7 fi d (s0 :: s1 :: s2 :: s3 :: s4 :: s5 :: s6 :: .rf (.list ds) :: g) kT = fi (s0 :: s1 :: s2 :: s3 :: s4 :: s5 :: s6 :: .rf (.list ds) :: g) fun j g' => puK 7 d j g' kT := rfl
@[simp ↓] theorem pk7rf {s0 s1 s2 s3 s4 s5 s6 : Sl} {ds : List D} {n : Int} : puK 7 d (.int n) (s0 :: s1 :: s2 :: s3 :: s4 :: s5 :: s6 :: .rf (.list ds) :: g) kT = setK ds n d fun ds' => kT (s0 :: s1 :: s2 :: s3 :: s4 :: s5 :: s6 :: .rf (.list ds') :: g) := by
  show (match ixN ds.length n with | some m => _ | none => _) = _
  unfold setK; split <;> rfl
@[simp ↓] theorem au7rf {s0 s1 s2 s3 s4 s5 s6 : Sl} {ds : List D} {f : Int → Int → Int} : augT 7 fi fe f (s0 :: s1 :: s2 :: s3 :: s4 :: s5 :: s6 :: .rf (.list ds) :: g) kT = fi (s0 :: s1 :: s2 :: s3 :: s4 :: s5 :: s6 :: .rf (.list ds) :: g) fun j g' => auJ 7 fe f j g' kT := rfl
@[simp ↓] theorem aj7rf {s0 s1 s2 s3 s4 s5 s6 : Sl} {ds : List D} {f : Int → Int → Int} {n : Int} : auJ 7 fe f (.int n) (s0 :: s1 :: s2 :: s3 :: s4 :: s5 :: s6 :: .rf (.list ds) :: g) kT = augK ds n fun x => fe (s0 :: s1 :: s2 :: s3 :: s4 :: s5 :: s6 :: .rf (.list ds) :: g) fun y g2 => auK 7 f n x y g2 kT := by
  show (match ixN ds.length n with | some m => _ | none => _) = _
  unfold augK; split <;> rfl
@[simp ↓] theorem ak7rf {s0 s1 s2 s3 s4 s5 s6 : Sl} {ds : List D} {f : Int → Int → Int} {n x y : Int} : auK 7 f n x (.int y) (s0 :: s1 :: s2 :: s3 :: s4 :: s5 :: s6 :: .rf (.list ds) :: g) kT = setK ds n (.int (f x y)) fun ds' => kT (s0 :: s1 :: s2 :: s3 :: s4 :: s5 :: s6 :: .rf (.list ds') :: g) := by
  show (match ixN ds.length n with | some m => _ | none => _) = _
  unfold setK; split <;> rfl
@[simp ↓] theorem ag7 {s0 s1 s2 s3 s4 s5 s6 : Sl} {f : Int → Int → Int} {x : Int} : augN 7 fe f (s0 :: s1 :: s2 :: s3 :: s4 :: s5 :: s6 :: .sh (.int x) :: g) kT = fe (s0 :: s1 :: s2 :: s3 :: s4 :: s5 :: s6 :: .sh (.int x) :: g) fun y g' => kopO (intO y) g' fun y g' => stC 7 (.sh (.int (f x y))) g' kT := by
  show (fe _ _) = _
  congr 1; funext y g'; cases y <;> rfl
@[simp ↓] theorem rc8ow {s0 s1 s2 s3 s4 s5 s6 s7 : Sl} {φ : Fd} : callRC 8 φ fs (s0 :: s1 :: s2 :: s3 :: s4 :: s5 :: s6 :: s7 :: .ow d :: g) kS = fs (s0 :: s1 :: s2 :: s3 :: s4 :: s5 :: s6 :: s7 :: .ow d :: g) fun ds g' => rcK 8 φ ds g' kS := rfl
@[simp ↓] theorem rk8ow {s0 s1 s2 s3 s4 s5 s6 s7 : Sl} {φ : Fd} {ds : List D} : rcK 8 φ ds (s0 :: s1 :: s2 :: s3 :: s4 :: s5 :: s6 :: s7 :: .ow d :: g) kS = okR1 (φ (d :: ds)) fun s d1 => kS s (s0 :: s1 :: s2 :: s3 :: s4 :: s5 :: s6 :: s7 :: .ow d1 :: g) := by
  show (match φ (d :: ds) with | .ok s [d1] => _ | _ => _) = _
  unfold okR1; split <;> rfl
@[simp ↓] theorem mu8ow {s0 s1 s2 s3 s4 s5 s6 s7 : Sl} {op : List D → List D → Option (D × List D)} {ds : List D} : mutC 8 fs op (s0 :: s1 :: s2 :: s3 :: s4 :: s5 :: s6 :: s7 :: .ow (.list ds) :: g) k = fs (s0 :: s1 :: s2 :: s3 :: s4 :: s5 :: s6 :: s7 :: .ow (.list ds) :: g) fun as g' => muK 8 op as g' k := rfl
@[simp ↓] theorem mk8ow {s0 s1 s2 s3 s4 s5 s6 s7 : Sl} {op : List D → List D → Option (D × List D)} {as ds : List D} : muK 8 op as (s0 :: s1 :: s2 :: s3 :: s4 :: s5 :: s6 :: s7 :: .ow (.list ds) :: g) k = mutK (op ds as) fun r ds' => k r (s0 :: s1 :: s2 :: s3 :: s4 :: s5 :: s6 :: s7 :: .ow (.list ds') :: g) := by
  show (match op ds as with | some (d, ds') => _ | none => _) = _
  unfold mutK; split <;> rfl
@[simp ↓] theorem pu8ow {s0 s1 s2 s3 s4 s5 s6 s7 : Sl} {ds : List D} : putC 8 fi d (s0 :: s1 :: s2 :: s3 :: s4 :: s5 :: s6 :: s7 :: .ow (.list ds) :: g) kT = fi (s0 :: s1 :: s2 :: s3 :: s4 :: s5 :: s6 :: s7 :: .ow (.list ds) :: g) fun j g' => puK 8 d j g' kT := rfl
@[simp ↓] theorem pk8ow {s0 s1 s2 s3 s4 s5 s6 s7 : Sl} {ds : List D} {n : Int} : puK 8 d (.int n) (s0 :: s1 :: s2 :: s3 :: s4 :: s5 :: s6 :: s7 :: .ow (.list ds) :: g) kT = setK ds n d fun ds' => kT (s0 :: s1 :: s2 :: s3 :: s4 :: s5 :: s6 :: s7 :: .ow (.list ds') :: g) := by
  show (match ixN ds.length n with | some m => _ | none => _) = _
  unfold setK; split <;> rfl
@[simp ↓] theorem au8ow {s0 s1 s2 s3 s4 s5 s6 s7 : Sl} {ds : List D} {f : Int → Int → Int} : augT 8 fi fe f (s0 :: s1 :: s2 :: s3 :: s4 :: s5 :: s6 :: s7 :: .ow (.list ds) :: g) kT = fi (s0 :: s1 :: s2 :: s3 :: s4 :: s5 :: s6 :: s7 :: .ow (.list ds) :: g) fun j g' => auJ 8 fe f j g' kT := rfl
@[simp ↓] theorem aj8ow {s0 s1 s2 s3 s4 s5 s6 s7 : Sl} {ds : List D} {f : Int → Int → Int} {n : Int} : auJ 8 fe f (.int n) (s0 :: s1 :: s2 :: s3 :: s4 :: s5 :: s6 :: s7 :: .ow (.list ds) :: g) kT = augK ds n fun x => fe (s0 :: s1 :: s2 :: s3 :: s4 :: s5 :: s6 :: s7 :: .ow (.list ds) :: g) fun y g2 => auK 8 f n x y g2 kT := by
  show (match ixN ds.length n with | some m => _ | none => _) = _
  unfold augK; split <;> rfl
@[simp ↓] theorem ak8ow {s0 s1 s2 s3 s4 s5 s6 s7 : Sl} {ds : List D} {f : Int → Int → Int} {n x y : Int} : auK 8 f n x (.int y) (s0 :: s1 :: s2 :: s3 :: s4 :: s5 :: s6 :: s7 :: .ow (.list ds) :: g) kT = setK ds n (.int (f x y)) fun ds' => kT (s0 :: s1 :: s2 :: s3 :: s4 :: s5 :: s6 :: s7 :: .ow (.list ds') :: g) := by
  show (match ixN ds.length n with | some m => _ | none => _) = _
  unfold setK; split <;> rfl
@[simp ↓] theorem rc8rf {s0 s1 s2 s3 s4 s5 s6 s7 : Sl} {φ : Fd} : callRC 8 φ fs (s0 :: s1 :: s2 :: s3 :: s4 :: s5 :: s6 :: s7 :: .rf d :: g) kS = fs (s0 :: s1 :: s2 :: s3 :: s4 :: s5 :: s6 :: s7 :: .rf d :: g) fun ds g' => rcK 8 φ ds g' kS := rfl
@[simp ↓] theorem rk8rf {s0 s1 s2 s3 s4 s5 s6 s7 : Sl} {φ : Fd} {ds : List D} : rcK 8 φ ds (s0 :: s1 :: s2 :: s3 :: s4 :: s5 :: s6 :: s7 :: .rf d :: g) kS = okR1 (φ (d :: ds)) fun s d1 => kS s (s0 :: s1 :: s2 :: s3 :: s4 :: s5 :: s6 :: s7 :: .rf d1 :: g) := by
  show (match φ (d :: ds) with | .ok s [d1] => _ | _ => _) = _
  unfold okR1; split <;> rfl
@[simp ↓] theorem mu8rf {s0 s1 s2 s3 s4 s5 s6 s7 : Sl} {op : List D → List D → Option (D × List D)} {ds : List D} : mutC 8 fs op (s0 :: s1 :: s2 :: s3 :: s4 :: s5 :: s6 :: s7 :: .rf (.list ds) :: g) k = fs (s0 :: s1 :: s2 :: s3 :: s4 :: s5 :: s6 :: s7 :: .rf (.list ds) :: g) fun as g' => muK 8 op as g' k := rfl
@[simp ↓] theorem mk8rf {s0 s1 s2 s3 s4 s5 s6 s7 : Sl} {op : List D → List D → Option (D × List D)} {as ds : List D} : muK 8 op as (s0 :: s1 :: s2 :: s3 :: s4 :: s5 :: s6 :: s7 :: .rf (.list ds) :: g) k = mutK (op ds as) fun r ds' => k r (s0 :: s1 :: s2 :: s3 :: s4 :: s5 :: s6 :: s7 :: .rf (.list ds') :: g) := by
  show (match op ds as with | some (d, ds') => _ | none => _) = _
  unfold mutK; split <;> rfl
@[simp ↓] theorem pu8rf {s0 s1 s2 s3 s4 s5 s6 s7 : Sl} {ds : List D} : putC 8 fi d (s0 :: s1 :: s2 :: s3 :: s4 :: s5 :: s6 :: s7 :: .rf (.list ds) :: g) kT = fi (s0 :: s1 :: s2 :: s3 :: s4 :: s5 :: s6 :: s7 :: .rf (.list ds) :: g) fun j g' => puK 8 d j g' kT := rfl
@[simp ↓] theorem pk8rf {s0 s1 s2 s3 s4 s5 s6 s7 : Sl} {ds : List D} {n : Int} : puK 8 d (.int n) (s0 :: s1 :: s2 :: s3 :: s4 :: s5 :: s6 :: s7 :: .rf (.list ds) :: g) kT = setK ds n d fun ds' => kT (s0 :: s1 :: s2 :: s3 :: s4 :: s5 :: s6 :: s7 :: .rf (.list ds') :: g) := by
  show (match ixN ds.length n with | some m => _ | none => _) = _
  unfold setK; split <;> rfl
@[simp ↓] theorem au8rf {s0 s1 s2 s3 s4 s5 s6 s7 : Sl} {ds : List D} {f : Int → Int → Int} : augT 8 fi fe f (s0 :: s1 :: s2 :: s3 :: s4 :: s5 :: s6 :: s7 :: .rf (.list ds) :: g) kT = fi (s0 :: s1 :: s2 :: s3 :: s4 :: s5 :: s6 :: s7 :: .rf (.list ds) :: g) fun j g' => auJ 8 fe f j g' kT := rfl
@[simp ↓] theorem aj8rf {s0 s1 s2 s3 s4 s5 s6 s7 : Sl} {ds : List D} {f : Int → Int → Int} {n : Int} : auJ 8 fe f (.int n) (s0 :: s1 :: s2 :: s3 :: s4 :: s5 :: s6 :: s7 :: .rf (.list ds) :: g) kT = augK ds n fun x => fe (s0 :: s1 :: s2 :: s3 :: s4 :: s5 :: s6 :: s7 :: .rf (.list ds) :: g) fun y g2 => auK 8 f n x y g2 kT := by
  show (match ixN ds.length n with | some m => _ | none => _) = _
  unfold augK; split <;> rfl
@[simp ↓] theorem ak8rf {s0 s1 s2 s3 s4 s5 s6 s7 : Sl} {ds : List D} {f : Int → Int → Int} {n x y : Int} : auK 8 f n x (.int y) (s0 :: s1 :: s2 :: s3 :: s4 :: s5 :: s6 :: s7 :: .rf (.list ds) :: g) kT = setK ds n (.int (f x y)) fun ds' => kT (s0 :: s1 :: s2 :: s3 :: s4 :: s5 :: s6 :: s7 :: .rf (.list ds') :: g) := by
  show (match ixN ds.length n with | some m => _ | none => _) = _
  unfold setK; split <;> rfl
@[simp ↓] theorem ag8 {s0 s1 s2 s3 s4 s5 s6 s7 : Sl} {f : Int → Int → Int} {x : Int} : augN 8 fe f (s0 :: s1 :: s2 :: s3 :: s4 :: s5 :: s6 :: s7 :: .sh (.int x) :: g) kT = fe (s0 :: s1 :: s2 :: s3 :: s4 :: s5 :: s6 :: s7 :: .sh (.int x) :: g) fun y g' => kopO (intO y) g' fun y g' => stC 8 (.sh (.int (f x y))) g' kT := by
  show (fe _ _) = _
  congr 1; funext y g'; cases y <;> rfl
@[simp ↓] theorem rc9ow {s0 s1 s2 s3 s4 s5 s6 s7 s8 : Sl} {φ : Fd} : callRC 9 φ fs (s0 :: s1 :: s2 :: s3 :: s4 :: s5 :: s6 :: s7 :: s8 :: .ow d :: g) kS = fs (s0 :: s1 :: s2 :: s3 :: s4 :: s5 :: s6 :: s7 :: s8 :: .ow d :: g) fun ds g' => rcK 9 φ ds g' kS := rfl
@[simp ↓] theorem rk9ow {s0 s1 s2 s3 s4 s5 s6 s7 s8 : Sl} {φ : Fd} {ds : List D} : rcK 9 φ ds (s0 :: s1 :: s2 :: s3 :: s4 :: s5 :: s6 :: s7 :: s8 :: .ow d :: g) kS = okR1 (φ (d :: ds)) fun s d1 => kS s (s0 :: s1 :: s2 :: s3 :: s4 :: s5 :: s6 :: s7 :: s8 :: .ow d1 :: g) := by
  show (match φ (d :: ds) with | .ok s [d1] => _ | _ => _) = _
  unfold okR1; split <;> rfl
@[simp ↓] theorem mu9ow {s0 s1 s2 s3 s4 s5 s6 s7 s8 : Sl} {op : List D → List D → Option (D × List D)} {ds : List D} : mutC 9 fs op (s0 :: s1 :: s2 :: s3 :: s4 :: s5 :: s6 :: s7 :: s8 :: .ow (.list ds) :: g) k = fs (s0 :: s1 :: s2 :: s3 :: s4 :: s5 :: s6 :: s7 :: s8 :: .ow (.list ds) :: g) fun as g' => muK 9 op as g' k := rfl
@[simp ↓] theorem mk9ow {s0 s1 s2 s3 s4 s5 s6 s7 s8 : Sl} {op : List D → List D → Option (D × List D)} {as ds : List D} : muK 9 op as (s0 :: s1 :: s2 :: s3 :: s4 :: s5 :: s6 :: s7 :: s8 :: .ow (.list ds) :: g) k = mutK (op ds as) fun r ds' => k r (s0 :: s1 :: s2 :: s3 :: s4 :: s5 :: s6 :: s7 :: s8 :: .ow (.list ds') :: g) := by
  show (match op ds as with | some (d, ds') => _ | none => _) = _
  unfold mutK; split <;> rfl
@[simp ↓] theorem pu9ow {s0 s1 s2 s3 s4 s5 s6 s7 s8 : Sl} {ds : List D} : putC 9 fi d (s0 :: s1 :: s2 :: s3 :: s4 :: s5 :: s6 :: s7 :: s8 :: .ow (.list ds) :: g) kT = fi (s0 :: s1 :: s2 :: s3 :: s4 :: s5 :: s6 :: s7 :: s8 :: .ow (.list ds) :: g) fun j g' => puK 9 d j g' kT := rfl
@[simp ↓] theorem pk9ow {s0 s1 s2 s3 s4 s5 s6 s7 s8 : Sl} {ds : List D} {n : Int} : puK 9 d (.int n) (s0 :: s1 :: s2 :: s3 :: s4 :: s5 :: s6 :: s7 :: s8 :: .ow (.list ds) :: g) kT = setK ds n d fun ds' => kT (s0 :: s1 :: s2 :: s3 :: s4 :: s5 :: s6 :: s7 :: s8 :: .ow (.list ds') :: g) := by
  show (match ixN ds.length n with | some m => _ | none => _) = _
  unfold setK; split <;> rfl
@[simp ↓] theorem au9ow {s0 s1 s2 s3 s4 s5 s6 s7 s8 : Sl} {ds : List D} {f : Int → Int → Int} : augT 9 fi fe f (s0 :: s1 :: s2 :: s3 :: s4 :: s5 :: s6 :: s7 :: s8 :: .ow (.list ds) :: g) kT = fi (s0 :: s1 :: s2 :: s3 :: s4 :: s5 :: s6 :: s7 :: s8 :: .ow (.list ds) :: g) fun j g' => auJ 9 fe f j g' kT := rfl
@[simp ↓] theorem aj9ow {s0 s1 s2 s3 s4 s5 s6 s7 s8 : Sl} {ds : List D} {f : Int → Int → Int} {n : Int} : auJ 9 fe f (.int n) (s0 :: s1 :: s2 :: s3 :: s4 :: s5 :: s6 :: s7 :: s8 :: .ow (.list ds) :: g) kT = augK ds n fun x => fe (s0 :: s1 :: s2 :: s3 :: s4 :: s5 :: s6 :: s7 :: s8 :: .ow (.list ds) :: g) fun y g2 => auK 9 f n x y g2 kT := by
  show (match ixN ds.length n with | some m => _ | none => _) = _
  unfold augK; split <;> rfl
@[simp ↓] theorem ak9ow {s0 s1 s2 s3 s4 s5 s6 s7 s8 : Sl} {ds : List D} {f : Int → Int → Int} {n x y : Int} : auK 9 f n x (.int y) (s0 :: s1 :: s2 :: s3 :: s4 :: s5 :: s6 :: s7 :: s8 :: .ow (.list ds) :: g) kT = setK ds n (.int (f x y)) fun ds' => kT (s0 :: s1 :: s2 :: s3 :: s4 :: s5 :: s6 :: s7 :: s8 :: .ow (.list ds') :: g) := by
  show (match ixN ds.length n with | some m => _ | none => _) = _
  unfold setK; split <;> rfl
@[simp ↓] theorem rc9rf {s0 s1 s2 s3 s4 s5 s6 s7 s8 : Sl} {φ : Fd} : callRC 9 φ fs (s0 :: s1 :: s2 :: s3 :: s4 :: s5 :: s6 :: s7 :: s8 :: .rf d :: g) kS = fs (s0 :: s1 :: s2 :: s3 :: s4 :: s5 :: s6 :: s7 :: s8 :: .rf d :: g) fun ds g' => rcK 9 φ ds g' kS := rfl
@[simp ↓] theorem rk9rf {s0 s1 s2 s3 s4 s5 s6 s7 s8 : Sl} {φ : Fd} {ds : List D} : rcK 9 φ ds (s0 :: s1 :: s2 :: s3 :: s4 :: s5 :: s6 :: s7 :: s8 :: .rf d :: g) kS = okR1 (φ (d :: ds)) fun s d1 => kS s (s0 :: s1 :: s2 :: s3 :: s4 :: s5 :: s6 :: s7 :: s8 :: .rf d1 :: g) := by
  show (match φ (d :: ds) with | .ok s [d1] => _ | _ => _) = _
  unfold okR1; split <;> rfl
@[simp ↓] theorem mu9rf {s0 s1 s2 s3 s4 s5 s6 s7 s8 : Sl} {op : List D → List D → Option (D × List D)} {ds : List D} : mutC 9 fs op (s0 :: s1 :: s2 :: s3 :: s4 :: s5 :: s6 :: s7 :: s8 :: .rf (.list ds) :: g) k = fs (s0 :: s1 :: s2 :: s3 :: s4 :: s5 :: s6 :: s7 :: s8 :: .rf (.list ds) :: g) fun as g' => muK 9 op as g' k := rfl
@[simp ↓] theorem mk9rf {s0 s1 s2 s3 s4 s5 s6 s7 s8 : Sl} {op : List D → List D → Option (D × List D)} {as ds : List D} : muK 9 op as (s0 :: s1 :: s2 :: s3 :: s4 :: s5 :: s6 :: s7 :: s8 :: .rf (.list ds) :: g) k = mutK (op ds as) fun r ds' => k r (s0 :: s1 :: s2 :: s3 :: s4 :: s5 :: s6 :: s7 :: s8 :: .rf (.list ds') :: g) := by
  show (match op ds as with | some (d, ds') => _ | none => _) = _
  unfold mutK; split <;> rfl
@[simp ↓] theorem pu9rf {s0 s1 s2 s3 s4 s5 s6 s7 s8 : Sl} {ds : List D} : putC 9 fi d (s0 :: s1 :: s2 :: s3 :: s4 :: s5 :: s6 :: s7 :: s8 :: .rf (.list ds) :: g) kT = fi (s0 :: s1 :: s2 :: s3 :: s4 :: s5 :: s6 :: s7 :: s8 :: .rf (.list ds) :: g) fun j g' => puK 9 d j g' kT := rfl
@[simp ↓] theorem pk9rf {s0 s1 s2 s3 s4 s5 s6 s7 s8 : Sl} {ds : List D} {n : Int} : puK 9 d (.int n) (s0 :: s1 :: s2 :: s3 :: s4 :: s5 :: s6 :: s7 :: s8 :: .rf (.list ds) :: g) kT = setK ds n d fun ds' => kT (s0 :: s1 :: s2 :: s3 :: s4 :: s5 :: s6 :: s7 :: s8 :: .rf (.list ds') :: g) := by
  show (match ixN ds.length n with | some m => _ | none => _) = _
  unfold setK; split <;> rfl
@[simp ↓] theorem au9rf {s0 s1 s2 s3 s4 s5 s6 s7 s8 : Sl} {ds : List D} {f : Int → Int → Int} : augT 9 fi fe f (s0 :: s1 :: s2 :: s3 :: s4 :: s5 :: s6 :: s7 :: s8 :: .rf (.list ds) :: g) kT = fi (s0 :: s1 :: s2 :: s3 :: s4 :: s5 :: s6 :: s7 :: s8 :: .rf (.list ds) :: g) fun j g' => auJ 9 fe f j g' kT := rfl
@[simp ↓] theorem aj9rf {s0 s1 s2 s3 s4 s5 s6 s7 s8 : Sl} {ds : List D} {f : Int → Int → Int} {n : Int} : auJ 9 fe f (.int n) (s0 :: s1 :: s2 :: s3 :: s4 :: s5 :: s6 :: s7 :: s8 :: .rf (.list ds) :: g) kT = augK ds n fun x => fe (s0 :: s1 :: s2 :: s3 :: s4 :: s5 :: s6 :: s7 :: s8 :: .rf (.list ds) :: g) fun y g2 => auK 9 f n x y g2 kT := by
  show (match ixN ds.length n with | some m => _ | none => _) = _
  unfold augK; split <;> rfl
@[simp ↓] theorem ak9rf {s0 s1 s2 s3 s4 s5 s6 s7 s8 : Sl} {ds : List D} {f : Int → Int → Int} {n x y : Int} : auK 9 f n x (.int y) (s0 :: s1 :: s2 :: s3 :: s4 :: s5 :: s6 :: s7 :: s8 :: .rf (.list ds) :: g) kT = setK ds n (.int (f x y)) fun ds' => kT (s0 :: s1 :: s2 :: s3 :: s4 :: s5 :: s6 :: s7 :: s8 :: .rf (.list ds') :: g) := by
  show (match ixN ds.length n with | some m => _ | none => _) = _
  unfold setK; split <;> rfl
@[simp ↓] theorem ag9 {s0 s1 s2 s3 s4 s5 s6 s7 s8 : Sl} {f : Int → Int → Int} {x : Int} : augN 9 fe f (s0 :: s1 :: s2 :: s3 :: s4 :: s5 :: s6 :: s7 :: s8 :: .sh (.int x) :: g) kT = fe (s0 :: s1 :: s2 :: s3 :: s4 :: s5 :: s6 :: s7 :: s8 :: .sh (.int x) :: g) fun y g' => kopO (intO y) g' fun y g' => stC 9 (.sh (.int (f x y))) g' kT := by
  show (fe _ _) = _
  congr 1; funext y g'; cases y <;> rfl
@[simp ↓] theorem rc10ow {s0 s1 s2 s3 s4 s5 s6 s7 s8 s9 : Sl} {φ : Fd} : callRC 10 φ fs (s0 :: s1 :: s2 :: s3 :: s4 :: s5 :: s6 :: s7 :: s8 :: s9 :: .ow d :: g) kS = fs (s0 :: s1 :: s2 :: s3 :: s4 :: s5 :: s6 :: s7 :: s8 :: s9 :: .ow d :: g) fun ds g' => rcK 10 φ ds g' kS := rfl
@[simp ↓] theorem rk10ow {s0 s1 s2 s3 s4 s5 s6 s7 s8 s9 : Sl} {φ : Fd} {ds : List D} : rcK 10 φ ds (s0 :: s1 :: s2 :: s3 :: s4 :: s5 :: s6 :: s7 :: s8 :: s9 :: .ow d :: g) kS = okR1 (φ (d :: ds)) fun s d1 => kS s (s0 :: s1 :: s2 :: s3 :: s4 :: s5 :: s6 :: s7 :: s8 :: s9 :: .ow d1 :: g) := by
  show (match φ (d :: ds) with | .ok s [d1] => _ | _ => _) = _
  unfold okR1; split <;> rfl
@[simp ↓] theorem mu10ow {s0 s1 s2 s3 s4 s5 s6 s7 s8 s9 : Sl} {op : List D → List D → Option (D × List D)} {ds : List D} : mutC 10 fs op (s0 :: s1 :: s2 :: s3 :: s4 :: s5 :: s6 :: s7 :: s8 :: s9 :: .ow (.list ds) :: g) k = fs (s0 :: s1 :: s2 :: s3 :: s4 :: s5 :: s6 :: s7 :: s8 :: s9 :: .ow (.list ds) :: g) fun as g' => muK 10 op as g' k := rfl
@[simp ↓] theorem mk10ow {s0 s1 s2 s3 s4 s5 s6 s7 s8 s9 : Sl} {op : List D → List D → Option (D × List D)} {as ds : List D} : muK 10 op as (s0 :: s1 :: s2 :: s3 :: s4 :: s5 :: s6 :: s7 :: s8 :: s9 :: .ow (.list ds) :: g) k = mutK (op ds as) fun r ds' => k r (s0 :: s1 :: s2 :: s3 :: s4 :: s5 :: s6 :: s7 :: s8 :: s9 :: .ow (.list ds') :: g) := by
  show (match op ds as with | some (d, ds') => _ | none => _) = _
  unfold mutK; split <;> rfl
@[simp ↓] theorem pu10ow {s0 s1 s2 s3 s4 s5 s6 s7 s8 s9 : Sl} {ds : List D} : putC 10 fi d (s0 :: s1 :: s2 :: s3 :: s4 :: s5 :: s6 :: s7 :: s8 :: s9 :: .ow (.list ds) :: g) kT = fi (s0 :: s1 :: s2 :: s3 :: s4 :: s5 :: s6 :: s7 :: s8 :: s9 :: .ow (.list ds) :: g) fun j g' => puK 10 d j g' kT := rfl
@[simp ↓] theorem pk10ow {s0 s1 s2 s3 s4 s5 s6 s7 s8 s9 : Sl} {ds : List D} {n : Int} : puK 10 d (.int n) (s0 :: s1 :: s2 :: s3 :: s4 :: s5 :: s6 :: s7 :: s8 :: s9 :: .ow (.list ds) :: g) kT = setK ds n d fun ds' => kT (s0 :: s1 :: s2 :: s3 :: s4 :: s5 :: s6 :: s7 :: s8 :: s9 :: .ow (.list ds') :: g) := by
  show (match ixN ds.length n with | some m => _ | none => _) = _
  unfold setK; split <;> rfl
@[simp ↓] theorem au10ow {s0 s1 s2 s3 s4 s5 s6 s7 s8 s9 : Sl} {ds : List D} {f : Int → Int → Int} : augT 10 fi fe f (s0 :: s1 :: s2 :: s3 :: s4 :: s5 :: s6 :: s7 :: s8 :: s9 :: .ow (.list ds) :: g) kT = fi (s0 :: s1 :: s2 :: s3 :: s4 :: s5 :: s6 :: s7 :: s8 :: s9 :: .ow (.list ds) :: g) fun j g' => auJ 10 fe f j g' kT := rfl
@[simp ↓] theorem aj10ow {s0 s1 s2 s3 s4 s5 s6 s7 s8 s9 : Sl} {ds : List D} {f : Int → Int → Int} {n : Int} : auJ 10 fe f (.int n) (s0 :: s1 :: s2 :: s3 :: s4 :: s5 :: s6 :: s7 :: s8 :: s9 :: .ow (.list ds) :: g) kT = augK ds n fun x => fe (s0 :: s1 :: s2 :: s3 :: s4 :: s5 :: s6 :: s7 :: s8 :: s9 :: .ow (.list ds) :: g) fun y g2 => auK 10 f n x y g2 kT := by
  show (match ixN ds.length n with | some m => _ | none => _) = _
  unfold augK; split <;> rfl
@[simp ↓] theorem ak10ow {s0 s1 s2 s3 s4 s5 s6 s7 s8 s9 : Sl} {ds : List D} {f : Int → Int → Int} {n x y : Int} : auK 10 f n x (.int y) (s0 :: s1 :: s2 :: s3 :: s4 :: s5 :: s6 :: s7 :: s8 :: s9 :: .ow (.list ds) :: g) kT = setK ds n (.int (f x y)) fun ds' => kT (s0 :: s1 :: s2 :: s3 :: s4 :: s5 :: s6 :: s7 :: s8 :: s9 :: .ow (.list ds') :: g) := by
  show (match ixN ds.length n with | some m => _ | none => _) = _
  unfold setK; split <;> rfl
@[simp ↓] theorem rc10rf {s0 s1 s2 s3 s4 s5 s6 s7 s8 s9 : Sl} {φ : Fd} : callRC 10 φ fs (s0 :: s1 :: s2 :: s3 :: s4 :: s5 :: s6 :: s7 :: s8 :: s9 :: .rf d :: g) kS = fs (s0 :: s1 :: s2 :: s3 :: s4 :: s5 :: s6 :: s7 :: s8 :: s9 :: .rf d :: g) fun ds g' => rcK 10 φ ds g' kS := rfl
@[simp ↓] theorem rk10rf {s0 s1 s2 s3 s4 s5 s6 s7 s8 s9 : Sl} {φ : Fd} {ds : List D} : rcK 10 φ ds (s0 :: s1 :: s2 :: s3 :: s4 :: s5 :: s6 :: s7 :: s8 :: s9 :: .rf d :: g) kS = okR1 (φ (d :: ds)) fun s d1 => kS s (s0 :: s1 :: s2 :: s3 :: s4 :: s5 :: s6 :: s7 :: s8 :: s9 :: .rf d1 :: g) := by
  show (match φ (d :: ds) with | .ok s [d1] => _ | _ => _) = _
  unfold okR1; split <;> rfl
@[simp ↓] theorem mu10rf {s0 s1 s2 s3 s4 s5 s6 s7 s8 s9 : Sl} {op : List D → List D → Option (D × List D)} {ds : List D} : mutC 10 fs op (s0 :: s1 :: s2 :: s3 :: s4 :: s5 :: s6 :: s7 :: s8 :: s9 :: .rf (.list ds) :: g) k = fs (s0 :: s1 :: s2 :: s3 :: s4 :: s5 :: s6 :: s7 :: s8 :: s9 :: .rf (.list ds) :: g) fun as g' => muK 10 op as g' k := rfl
@[simp ↓] theorem mk10rf {s0 s1 s2 s3 s4 s5 s6 s7 s8 s9 : Sl} {op : List D → List D → Option (D × List D)} {as ds : List D} : muK 10 op as (s0 :: s1 :: s2 :: s3 :: s4 :: s5 :: s6 :: s7 :: s8 :: s9 :: .rf (.list ds) :: g) k = mutK (op ds as) fun r ds' => k r (s0 :: s1 :: s2 :: s3 :: s4 :: s5 :: s6 :: s7 :: s8 :: s9 :: .rf (.list ds') :: g) := by
  show (match op ds as with | some (d, ds') => _ | none => _) = _
  unfold mutK; split <;> rfl
@[simp ↓] theorem pu10rf {s0 s1 s2 s3 s4 s5 s6 s7 s8 s9 : Sl} {ds : List D} : putC 10 fi d (s0 :: s1 :: s2 :: s3 :: s4 :: s5 :: s6 :: s7 :: s8 :: s9 :: .rf (.list ds) :: g) kT = fi (s0 :: s1 :: s2 :: s3 :: s4 :: s5 :: s6 :: s7 :: s8 :: s9 :: .rf (.list ds) :: g) fun j g' => puK 10 d j g' kT := rfl
@[simp ↓] theorem pk10rf {s0 s1 s2 s3 s4 s5 s6 s7 s8 s9 : Sl} {ds : List D} {n : Int} : puK 10 d (.int n) (s0 :: s1 :: s2 :: s3 :: s4 :: s5 :: s6 :: s7 :: s8 :: s9 :: .rf (.list ds) :: g) kT = setK ds n d fun ds' => kT (s0 :: s1 :: s2 :: s3 :: s4 :: s5 :: s6 :: s7 :: s8 :: s9 :: .rf (.list ds') :: g) := by
  show (match ixN ds.length n with | some m => _ | none => _) = _
  unfold setK; split <;> rfl
@[simp ↓] theorem au10rf {s0 s1 s2 s3 s4 s5 s6 s7 s8 s9 : Sl} {ds : List D} {f : Int → Int → Int} : augT 10 fi fe f (s0 :: s1 :: s2 :: s3 :: s4 :: s5 :: s6 :: s7 :: s8 :: s9 :: .rf (.list ds) :: g) kT = fi (s0 :: s1 :: s2 :: s3 :: s4 :: s5 :: s6 :: s7 :: s8 :: s9 :: .rf (.list ds) :: g) fun j g' => auJ 10 fe f j g' kT := rfl
@[simp ↓] theorem aj10rf {s0 s1 s2 s3 s4 s5 s6 s7 s8 s9 : Sl} {ds : List D} {f : Int → Int → Int} {n : Int} : auJ 10 fe f (.int n) (s0 :: s1 :: s2 :: s3 :: s4 :: s5 :: s6 :: s7 :: s8 :: s9 :: .rf (.list ds) :: g) kT = augK ds n fun x => fe (s0 :: s1 :: s2 :: s3 :: s4 :: s5 :: s6 :: s7 :: s8 :: s9 :: .rf (.list ds) :: g) fun y g2 => auK 10 f n x y g2 kT := by
  show (match ixN ds.length n with | some m => _ | none => _) = _
  unfold augK; split <;> rfl
@[simp ↓] theorem ak10rf {s0 s1 s2 s3 s4 s5 s6 s7 s8 s9 : Sl} {ds : List D} {f : Int → Int → Int} {n x y : Int} : auK 10 f n x (.int y) (s0 :: s1 :: s2 :: s3 :: s4 :: s5 :: s6 :: s7 :: s8 :: s9 :: .rf (.list ds) :: g) kT = setK ds n (.int (f x y)) fun ds' => kT (s0 :: s1 :: s2 :: s3 :: s4 :: s5 :: s6 :: s7 :: s8 :: s9 :: .rf (.list ds') :: g) := by
  show (match ixN ds.length n with | some m => _ | none => _) = _
  unfold setK; split <;> rfl
@[simp ↓] theorem ag10 {s0 s1 s2 s3 s4 s5 s6 s7 s8 s9 : Sl} {f : Int → Int → Int} {x : Int} : augN 10 fe f (s0 :: s1 :: s2 :: s3 :: s4 :: s5 :: s6 :: s7 :: s8 :: s9 :: .sh (.int x) :: g) kT = fe (s0 :: s1 :: s2 :: s3 :: s4 :: s5 :: s6 :: s7 :: s8 :: s9 :: .sh (.int x) :: g) fun y g' => kopO (intO y) g' fun y g' => stC 10 (.sh (.int (f x y))) g' kT := by
  show (fe _ _) = _
  congr 1; funext y g'; cases y <;> rfl
@[simp ↓] theorem rc11ow {s0 s1 s2 s3 s4 s5 s6 s7 s8 s9 s10 : Sl} {φ : Fd} : callRC 11 φ fs (s0 :: s1 :: s2 :: s3 :: s4 :: s5 :: s6 :: s7 :: s8 :: s9 :: s10 :: .ow d :: g) kS = fs (s0 :: s1 :: s2 :: s3 :: s4 :: s5 :: s6 :: s7 :: s8 :: s9 :: s10 :: .ow d :: g) fun ds g' => rcK 11 φ ds g' kS := rfl
@[simp ↓] theorem rk11ow {s0 s1 s2 s3 s4 s5 s6 s7 s8 s9 s10 : Sl} {φ : Fd} {ds : List D} : rcK 11 φ ds (s0 :: s1 :: s2 :: s3 :: s4 :: s5 :: s6 :: s7 :: s8 :: s9 :: s10 :: .ow d :: g) kS = okR1 (φ (d :: ds)) fun s d1 => kS s (s0 :: s1 :: s2 :: s3 :: s4 :: s5 :: s6 :: s7 :: s8 :: s9 :: s10 :: .ow d1 :: g) := by
  show (match φ (d :: ds) with | .ok s [d1] => _ | _ => _) = _
  unfold okR1; split <;> rfl
@[simp ↓] theorem mu11ow {s0 s1 s2 s3 s4 s5 s6 s7 s8 s9 s10 : Sl} {op : List D → List D → Option (D × List D)} {ds : List D} : mutC 11 fs op (s0 :: s1 :: s2 :: s3 :: s4 :: s5 :: s6 :: s7 :: s8 :: s9 :: s10 :: .ow (.list ds) :: g) k = fs (s0 :: s1 :: s2 :: s3 :: s4 :: s5 :: s6 :: s7 :: s8 :: s9 :: s10 :: .ow (.list ds) :: g) fun as g' => muK 11 op as g' k := rfl
@[simp ↓] theorem mk11ow {s0 s1 s2 s3 s4 s5 s6 s7 s8 s9 s10 : Sl} {op : List D → List D → Option (D × List D)} {as ds : List D} : muK 11 op as (s0 :: s1 :: s2 :: s3 :: s4 :: s5 :: s6 :: s7 :: s8 :: s9 :: s10 :: .ow (.list ds) :: g) k = mutK (op ds as) fun r ds' => k r (s0 :: s1 :: s2 :: s3 :: s4 :: s5 :: s6 :: s7 :: s8 :: s9 :: s10 :: .ow (.list ds') :: g) := by
  show (match op ds as with | some (d, ds') => _ | none => _) = _
  unfold mutK; split <;> rfl
@[simp ↓] theorem pu11ow {s0 s1 s2 s3 s4 s5 s6 s7 s8 s9 s10 : Sl} {ds : List D} : putC 11 fi d (s0 :: s1 :: s2 :: s3 :: s4 :: s5 :: s6 :: s7 :: s8 :: s9 :: s10 :: .ow (.list ds) :: g) kT = fi (s0 :: s1 :: s2 :: s3 :: s4 :: s5 :: s6 :: s7 :: s8 :: s9 :: s10 :: .ow (.list ds) :: g) fun j g' => puK 11 d j g' kT := rfl
@[simp ↓] theorem pk11ow {s0 s1 s2 s3 s4 s5 s6 s7 s8 s9 s10 : Sl} {ds : List D} {n : Int} : puK 11 d (.int n) (s0 :: s1 :: s2 :: s3 :: s4 :: s5 :: s6 :: s7 :: s8 :: s9 :: s10 :: .ow (.list ds) :: g) kT = setK ds n d fun ds' => kT (s0 :: s1 :: s2 :: s3 :: s4 :: s5 :: s6 :: s7 :: s8 :: s9 :: s10 :: .ow (.list ds') :: g) := by
  show (match ixN ds.length n with | some m => _ | none => _) = _
  unfold setK; split <;> rfl
@[simp ↓] theorem au11ow {s0 s1 s2 s3 s4 s5 s6 s7 s8 s9 s10 : Sl} {ds : List D} {f : Int → Int → Int} : augT 11 fi fe f (s0 :: s1 :: s2 :: s3 :: s4 :: s5 :: s6 :: s7 :: s8 :: s9 :: s10 :: .ow (.list ds) :: g) kT = fi (s0 :: s1 :: s2 :: s3 :: s4 :: s5 :: s6 :: s7 :: s8 :: s9 :: s10 :: .ow (.list ds) :: g) fun j g' => auJ 11 fe f j g' kT := rfl
@[simp ↓] theorem aj11ow {s0 s1 s2 s3 s4 s5 s6 s7 s8 s9 s10 : Sl} {ds : List D} {f : Int → Int → Int} {n : Int} : auJ 11 fe f (.int n) (s0 :: s1 :: s2 :: s3 :: s4 :: s5 :: s6 :: s7 :: s8 :: s9 :: s10 :: .ow (.list ds) :: g) kT = augK ds n fun x => fe (s0 :: s1 :: s2 :: s3 :: s4 :: s5 :: s6 :: s7 :: s8 :: s9 :: s10 :: .ow (.list ds) :: g) fun y g2 => auK 11 f n x y g2 kT := by
  show (match ixN ds.length n with | some m => _ | none => _) = _
  unfold augK; split <;> rfl
@[simp ↓] theorem ak11ow {s0 s1 s2 s3 s4 s5 s6 s7 s8 s9 s10 : Sl} {ds : List D} {f : Int → Int → Int} {n x y : Int} : auK 11 f n x (.int y) (s0 :: s1 :: s2 :: s3 :: s4 :: s5 :: s6 :: s7 :: s8 :: s9 :: s10 :: .ow (.list ds) :: g) kT = setK ds n (.int (f x y)) fun ds' => kT (s0 :: s1 :: s2 :: s3 :: s4 :: s5 :: s6 :: s7 :: s8 :: s9 :: s10 :: .ow (.list ds') :: g) := by
  show (match ixN ds.length n with | some m => _ | none => _) = _
  unfold setK; split <;> rfl
@[simp ↓] theorem rc11rf {s0 s1 s2 s3 s4 s5 s6 s7 s8 s9 s10 : Sl} {φ : Fd} : callRC 11 φ fs (s0 :: s1 :: s2 :: s3 :: s4 :: s5 :: s6 :: s7 :: s8 :: s9 :: s10 :: .rf d :: g) kS = fs (s0 :: s1 :: s2 :: s3 :: s4 :: s5 :: s6 :: s7 :: s8 :: s9 :: s10 :: .rf d :: g) fun ds g' => rcK 11 φ ds g' kS := rfl
@[simp ↓] theorem rk11rf {s0 s1 s2 s3 s4 s5 s6 s7 s8 s9 s10 : Sl} {φ : Fd} {ds : List D} : rcK 11 φ ds (s0 :: s1 :: s2 :: s3 :: s4 :: s5 :: s6 :: s7 :: s8 :: s9 :: s10 :: .rf d :: g) kS = okR1 (φ (d :: ds)) fun s d1 => kS s (s0 :: s1 :: s2 :: s3 :: s4 :: s5 :: s6 :: s7 :: s8 :: s9 :: s10 :: .rf d1 :: g) := by
  show (match φ (d :: ds) with | .ok s [d1] => _ | _ => _) = _
  unfold okR1; split <;> rfl
@[simp ↓] theorem mu11rf {s0 s1 s2 s3 s4 s5 s6 s7 s8 s9 s10 : Sl} {op : List D → List D → Option (D × List D)} {ds : List D} : mutC 11 fs op (s0 :: s1 :: s2 :: s3 :: s4 :: s5 :: s6 :: s7 :: s8 :: s9 :: s10 :: .rf (.list ds) :: g) k = fs (s0 :: s1 :: s2 :: s3 :: s4 :: s5 :: s6 :: s7 :: s8 :: s9 :: s10 :: .rf (.list ds) :: g) fun as g' => muK 11 op as g' k := rfl
@[simp ↓] theorem mk11rf {s0 s1 s2 s3 s4 s5 s6 s7 s8 s9 s10 : Sl} {op : List D → List D → Option (D × List D)} {as ds : List D} : muK 11 op as (s0 :: s1 :: s2 :: s3 :: s4 :: s5 :: s6 :: s7 :: s8 :: s9 :: s10 :: .rf (.list ds) :: g) k = mutK (op ds as) fun r ds' => k r (s0 :: s1 :: s2 :: s3 :: s4 :: s5 :: s6 :: s7 :: s8 :: s9 :: s10 :: .rf (.list ds') :: g) := by
  show (match op ds as with | some (d, ds') => _ | none => _) = _
  unfold mutK; split <;> rfl
@[simp ↓] theorem pu11rf {s0 s1 s2 s3 s4 s5 s6 s7 s8 s9 s10 : Sl} {ds : List D} : putC 11 fi d (s0 :: s1 :: s2 :: s3 :: s4 :: s5 :: s6 :: s7 :: s8 :: s9 :: s10 :: .rf (.list ds) :: g) kT = fi (s0 :: s1 :: s2 :: s3 :: s4 :: s5 :: s6 :: s7 :: s8 :: s9 :: s10 :: .rf (.list ds) :: g) fun j g' => puK 11 d j g' kT := rfl
@[simp ↓] theorem pk11rf {s0 s1 s2 s3 s4 s5 s6 s7 s8 s9 s10 : Sl} {ds : List D} {n : Int} : puK 11 d (.int n) (s0 :: s1 :: s2 :: s3 :: s4 :: s5 :: s6 :: s7 :: s8 :: s9 :: s10 :: .rf (.list ds) :: g) kT = setK ds n d fun ds' => kT (s0 :: s1 :: s2 :: s3 :: s4 :: s5 :: s6 :: s7 :: s8 :: s9 :: s10 :: .rf (.list ds') :: g) := by
  show (match ixN ds.length n with | some m => _ | none => _) = _
  unfold setK; split <;> rfl
@[simp ↓] theorem au11rf {s0 s1 s2 s3 s4 s5 s6 s7 s8 s9 s10 : Sl} {ds : List D} {f : Int → Int → Int} : augT 11 fi fe f (s0 :: s1 :: s2 :: s3 :: s4 :: s5 :: s6 :: s7 :: s8 :: s9 :: s10 :: .rf (.list ds) :: g) kT = fi (s0 :: s1 :: s2 :: s3 :: s4 :: s5 :: s6 :: s7 :: s8 :: s9 :: s10 :: .rf (.list ds) :: g) fun j g' => auJ 11 fe f j g' kT := rfl
@[simp ↓] theorem aj11rf {s0 s1 s2 s3 s4 s5 s6 s7 s8 s9 s10 : Sl} {ds : List D} {f : Int → Int → Int} {n : Int} : auJ 11 fe f (.int n) (s0 :: s1 :: s2 :: s3 :: s4 :: s5 :: s6 :: s7 :: s8 :: s9 :: s10 :: .rf (.list ds) :: g) kT = augK ds n fun x => fe (s0 :: s1 :: s2 :: s3 :: s4 :: s5 :: s6 :: s7 :: s8 :: s9 :: s10 :: .rf (.list ds) :: g) fun y g2 => auK 11 f n x y g2 kT := by
  show (match ixN ds.length n with | some m => _ | none => _) = _
  unfold augK; split <;> rfl
@[simp ↓] theorem ak11rf {s0 s1 s2 s3 s4 s5 s6 s7 s8 s9 s10 : Sl} {ds : List D} {f : Int → Int → Int} {n x y : Int} : auK 11 f n x (.int y) (s0 :: s1 :: s2 :: s3 :: s4 :: s5 :: s6 :: s7 :: s8 :: s9 :: s10 :: .rf (.list ds) :: g) kT = setK ds n (.int (f x y)) fun ds' => kT (s0 :: s1 :: s2 :: s3 :: s4 :: s5 :: s6 :: s7 :: s8 :: s9 :: s10 :: .rf (.list ds') :: g) := by
  show (match ixN ds.length n with | some m => _ | none => _) = _
  unfold setK; split <;> rfl
@[simp ↓] theorem ag11 {s0 s1 s2 s3 s4 s5 s6 s7 s8 s9 s10 : Sl} {f : Int → Int → Int} {x : Int} : augN 11 fe f (s0 :: s1 :: s2 :: s3 :: s4 :: s5 :: s6 :: s7 :: s8 :: s9 :: s10 :: .sh (.int x) :: g) kT = fe (s0 :: s1 :: s2 :: s3 :: s4 :: s5 :: s6 :: s7 :: s8 :: s9 :: s10 :: .sh (.int x) :: g) fun y g' => kopO (intO y) g' fun y g' => stC 11 (.sh (.int (f x y))) g' kT := by
  show (fe _ _) = _
  congr 1; funext y g'; cases y <;> rfl
@[simp ↓] theorem rc12ow {s0 s1 s2 s3 s4 s5 s6 s7 s8 s9 s10 s11 : Sl} {φ : Fd} : callRC 12 φ fs (s0 :: s1 :: s2 :: s3 :: s4 :: s5 :: s6 :: s7 :: s8 :: s9 :: s10 :: s11 :: .ow d :: g) kS = fs (s0 :: s1 :: s2 :: s3 :: s4 :: s5 :: s6 :: s7 :: s8 :: s9 :: s10 :: s11 :: .ow d :: g) fun ds g' => rcK 12 φ ds g' kS := rfl
@[simp ↓] theorem rk12ow {s0 s1 s2 s3 s4 s5 s6 s7 s8 s9 s10 s11 : Sl} {φ : Fd} {ds : List D} : rcK 12 φ ds (s0 :: s1 :: s2 :: s3 :: s4 :: s5 :: s6 :: s7 :: s8 :: s9 :: s10 :: s11 :: .ow d :: g) kS = okR1 (φ (d :: ds)) fun s d1 => kS s (s0 :: s1 :: s2 :: s3 :: s4 :: s5 :: s6 :: s7 :: s8 :: s9 :: s10 :: s11 :: .ow d1 :: g) := by
  show (match φ (d :: ds) with | .ok s [d1] => _ | _ => _) = _
  unfold okR1; split <;> rfl
@[simp ↓] theorem mu12ow {s0 s1 s2 s3 s4 s5 s6 s7 s8 s9 s10 s11 : Sl} {op : List D → List D → Option (D × List D)} {ds : List D} : mutC 12 fs op (s0 :: s1 :: s2 :: s3 :: s4 :: s5 :: s6 :: s7 :: s8 :: s9 :: s10 :: s11 :: .ow (.list ds) :: g) k = fs (s0 :: s1 :: s2 :: s3 :: s4 :: s5 :: s6 :: s7 :: s8 :: s9 :: s10 :: s11 :: .ow (.list ds) :: g) fun as g' => muK 12 op as g' k := rfl
@[simp ↓] theorem mk12ow {s0 s1 s2 s3 s4 s5 s6 s7 s8 s9 s10 s11 : Sl} {op : List D → List D → Option (D × List D)} {as ds : List D} : muK 12 op as (s0 :: s1 :: s2 :: s3 :: s4 :: s5 :: s6 :: s7 :: s8 :: s9 :: s10 :: s11 :: .ow (.list ds) :: g) k = mutK (op ds as) fun r ds' => k r (s0 :: s1 :: s2 :: s3 :: s4 :: s5 :: s6 :: s7 :: s8 :: s9 :: s10 :: s11 :: .ow (.list ds') :: g) := by
  show (match op ds as with | some (d, ds') => _ | none => _) = _
  unfold mutK; split <;> rfl
@[simp ↓] theorem pu12ow {s0 s1 s2 s3 s4 s5 s6 s7 s8 s9 s10 s11 : Sl} {ds : List D} : putC 12 fi d (s0 :: s1 :: s2 :: s3 :: s4 :: s5 :: s6 :: s7 :: s8 :: s9 :: s10 :: s11 :: .ow (.list ds) :: g) kT = fi (s0 :: s1 :: s2 :: s3 :: s4 :: s5 :: s6 :: s7 :: s8 :: s9 :: s10 :: s11 :: .ow (.list ds) :: g) fun j g' => puK 12 d j g' kT := rfl
@[simp ↓] theorem pk12ow {s0 s1 s2 s3 s4 s5 s6 s7 s8 s9 s10 s11 : Sl} {ds : List D} {n : Int} : puK 12 d (.int n) (s0 :: s1 :: s2 :: s3 :: s4 :: s5 :: s6 :: s7 :: s8 :: s9 :: s10 :: s11 :: .ow (.list ds) :: g) kT = setK ds n d fun ds' => kT (s0 :: s1 :: s2 :: s3 :: s4 :: s5 :: s6 :: s7 :: s8 :: s9 :: s10 :: s11 :: .ow (.list ds') :: g) := by
  show (match ixN ds.length n with | some m => _ | none => _) = _
  unfold setK; split <;> rfl
@[simp ↓] theorem au12ow {s0 s1 s2 s3 s4 s5 s6 s7 s8 s9 s10 s11 : Sl} {ds : List D} {f : Int → Int → Int} : augT 12 fi fe f (s0 :: s1 :: s2 :: s3 :: s4 :: s5 :: s6 :: s7 :: s8 :: s9 :: s10 :: s11 :: .ow (.list ds) :: g) kT = fi (s0 :: s1 :: s2 :: s3 :: s4 :: s5 :: s6 :: s7 :: s8 :: s9 :: s10 :: s11 :: .ow (.list ds) :: g) fun j g' => auJ 12 fe f j g' kT := rfl
@[simp ↓] theorem aj12ow {s0 s1 s2 s3 s4 s5 s6 s7 s8 s9 s10 s11 : Sl} {ds : List D} {f : Int → Int → Int} {n : Int} : auJ 12 fe f (.int n) (s0 :: s1 :: s2 :: s3 :: s4 :: s5 :: s6 :: s7 :: s8 :: s9 :: s10 :: s11 :: .ow (.list ds) :: g) kT = augK ds n fun x => fe (s0 :: s1 :: s2 :: s3 :: s4 :: s5 :: s6 :: s7 :: s8 :: s9 :: s10 :: s11 :: .ow (.list ds) :: g) fun y g2 => auK 12 f n x y g2 kT := by
  show (match ixN ds.length n with | some m => _ | none => _) = _
  unfold augK; split <;> rfl
@[simp ↓] theorem ak12ow {s0 s1 s2 s3 s4 s5 s6 s7 s8 s9 s10 s11 : Sl} {ds : List D} {f : Int → Int → Int} {n x y : Int} : auK 12 f n x (.int y) (s0 :: s1 :: s2 :: s3 :: s4 :: s5 :: s6 :: s7 :: s8 :: s9 :: s10 :: s11 :: .ow (.list ds) :: g) kT = setK ds n (.int (f x y)) fun ds' => kT (s0 :: s1 :: s2 :: s3 :: s4 :: s5 :: s6 :: s7 :: s8 :: s9 :: s10 :: s11 :: .ow (.list ds') :: g) := by
  show (match ixN ds.length n with | some m => _ | none => _) = _
  unfold setK; split <;> rfl
@[simp ↓] theorem rc12rf {s0 s1 s2 s3 s4 s5 s6 s7 s8 s9 s10 s11 : Sl} {φ : Fd} : callRC 12 φ fs (s0 :: s1 :: s2 :: s3 :: s4 :: s5 :: s6 :: s7 :: s8 :: s9 :: s10 :: s11 :: .rf d :: g) kS = fs (s0 :: s1 :: s2 :: s3 :: s4 :: s5 :: s6 :: s7 :: s8 :: s9 :: s10 :: s11 :: .rf d :: g) fun ds g' => rcK 12 φ ds g' kS := rfl
@[simp ↓] theorem rk12rf {s0 s1 s2 s3 s4 s5 s6 s7 s8 s9 s10 s11 : Sl} {φ : Fd} {ds : List D} : rcK 12 φ ds (s0 :: s1 :: s2 :: s3 :: s4 :: s5 :: s6 :: s7 :: s8 :: s9 :: s10 :: s11 :: .rf d :: g) kS = okR1 (φ (d :: ds)) fun s d1 => kS s (s0 :: s1 :: s2 :: s3 :: s4 :: s5 :: s6 :: s7 :: s8 :: s9 :: s10 :: s11 :: .rf d1 :: g) := by
  show (match φ (d :: ds) with | .ok s [d1] => _ | _ => _) = _
  unfold okR1; split <;> rfl
@[simp ↓] theorem mu12rf {s0 s1 s2 s3 s4 s5 s6 s7 s8 s9 s10 s11 : Sl} {op : List D → List D → Option (D × List D)} {ds : List D} : mutC 12 fs op (s0 :: s1 :: s2 :: s3 :: s4 :: s5 :: s6 :: s7 :: s8 :: s9 :: s10 :: s11 :: .rf (.list ds) :: g) k = fs (s0 :: s1 :: s2 :: s3 :: s4 :: s5 :: s6 :: s7 :: s8 :: s9 :: s10 :: s11 :: .rf (.list ds) :: g) fun as g' => muK 12 op as g' k := rfl
@[simp ↓] theorem mk12rf {s0 s1 s2 s3 s4 s5 s6 s7 s8 s9 s10 s11 : Sl} {op : List D → List D → Option (D × List D)} {as ds : List D} : muK 12 op as (s0 :: s1 :: s2 :: s3 :: s4 :: s5 :: s6 :: s7 :: s8 :: s9 :: s10 :: s11 :: .rf (.list ds) :: g) k = mutK (op ds as) fun r ds' => k r (s0 :: s1 :: s2 :: s3 :: s4 :: s5 :: s6 :: s7 :: s8 :: s9 :: s10 :: s11 :: .rf (.list ds') :: g) := by
  show (match op ds as with | some (d, ds') => _ | none => _) = _
  unfold mutK; split <;> rfl
@[simp ↓] theorem pu12rf {s0 s1 s2 s3 s4 s5 s6 s7 s8 s9 s10 s11 : Sl} {ds : List D} : putC 12 fi d (s0 :: s1 :: s2 :: s3 :: s4 :: s5 :: s6 :: s7 :: s8 :: s9 :: s10 :: s11 :: .rf (.list ds) :: g) kT = fi (s0 :: s1 :: s2 :: s3 :: s4 :: s5 :: s6 :: s7 :: s8 :: s9 :: s10 :: s11 :: .rf (.list ds) :: g) fun j g' => puK 12 d j g' kT := rfl
@[simp ↓] theorem pk12rf {s0 s1 s2 s3 s4 s5 s6 s7 s8 s9 s10 s11 : Sl} {ds : List D} {n : Int} : puK 12 d (.int n) (s0 :: s1 :: s2 :: s3 :: s4 :: s5 :: s6 :: s7 :: s8 :: s9 :: s10 :: s11 :: .rf (.list ds) :: g) kT = setK ds n d fun ds' => kT (s0 :: s1 :: s2 :: s3 :: s4 :: s5 :: s6 :: s7 :: s8 :: s9 :: s10 :: s11 :: .rf (.list ds') :: g) := by
  show (match ixN ds.length n with | some m => _ | none => _) = _
  unfold setK; split <;> rfl
@[simp ↓] theorem au12rf {s0 s1 s2 s3 s4 s5 s6 s7 s8 s9 s10 s11 : Sl} {ds : List D} {f : Int → Int → Int} : augT 12 fi fe f (s0 :: s1 :: s2 :: s3 :: s4 :: s5 :: s6 :: s7 :: s8 :: s9 :: s10 :: s11 :: .rf (.list ds) :: g) kT = fi (s0 :: s1 :: s2 :: s3 :: s4 :: s5 :: s6 :: s7 :: s8 :: s9 :: s10 :: s11 :: .rf (.list ds) :: g) fun j g' => auJ 12 fe f j g' kT := rfl
@[simp ↓] theorem aj12rf {s0 s1 s2 s3 s4 s5 s6 s7 s8 s9 s10 s11 : Sl} {ds : List D} {f : Int → Int → Int} {n : Int} : auJ 12 fe f (.int n) (s0 :: s1 :: s2 :: s3 :: s4 :: s5 :: s6 :: s7 :: s8 :: s9 :: s10 :: s11 :: .rf (.list ds) :: g) kT = augK ds n fun x => fe (s0 :: s1 :: s2 :: s3 :: s4 :: s5 :: s6 :: s7 :: s8 :: s9 :: s10 :: s11 :: .rf (.list ds) :: g) fun y g2 => auK 12 f n x y g2 kT := by
  show (match ixN ds.length n with | some m => _ | none => _) = _
  unfold augK; split <;> rfl
@[simp ↓] theorem ak12rf {s0 s1 s2 s3 s4 s5 s6 s7 s8 s9 s10 s11 : Sl} {ds : List D} {f : Int → Int → Int} {n x y : Int} : auK 12 f n x (.int y) (s0 :: s1 :: s2 :: s3 :: s4 :: s5 :: s6 :: s7 :: s8 :: s9 :: s10 :: s11 :: .rf (.list ds) :: g) kT = setK ds n (.int (f x y)) fun ds' => kT (s0 :: s1 :: s2 :: s3 :: s4 :: s5 :: s6 :: s7 :: s8 :: s9 :: s10 :: s11 :: .rf (.list ds') :: g) := by
  show (match ixN ds.length n with | some m => _ | none => _) = _
  unfold setK; split <;> rfl
@[simp ↓] theorem ag12 {s0 s1 s2 s3 s4 s5 s6 s7 s8 s9 s10 s11 : Sl} {f : Int → Int → Int} {x : Int} : augN 12 fe f (s0 :: s1 :: s2 :: s3 :: s4 :: s5 :: s6 :: s7 :: s8 :: s9 :: s10 :: s11 :: .sh (.int x) :: g) kT = fe (s0 :: s1 :: s2 :: s3 :: s4 :: s5 :: s6 :: s7 :: s8 :: s9 :: s10 :: s11 :: .sh (.int x) :: g) fun y g' => kopO (intO y) g' fun y g' => stC 12 (.sh (.int (f x y))) g' kT := by
  show (fe _ _) = _
  congr 1; funext y g'; cases y <;> rfl
@[simp ↓] theorem rc13ow {s0 s1 s2 s3 s4 s5 s6 s7 s8 s9 s10 s11 s12 : Sl} {φ : Fd} : callRC 13 φ fs (s0 :: s1 :: s2 :: s3 :: s4 :: s5 :: s6 :: s7 :: s8 :: s9 :: s10 :: s11 :: s12 :: .ow d :: g) kS = fs (s0 :: s1 :: s2 :: s3 :: s4 :: s5 :: s6 :: s7 :: s8 :: s9 :: s10 :: s11 :: s12 :: .ow d :: g) fun ds g' => rcK 13 φ ds g' kS := rfl
@[simp ↓] theorem rk13ow {s0 s1 s2 s3 s4 s5 s6 s7 s8 s9 s10 s11 s12 : Sl} {φ : Fd} {ds : List D} : rcK 13 φ ds (s0 :: s1 :: s2 :: s3 :: s4 :: s5 :: s6 :: s7 :: s8 :: s9 :: s10 :: s11 :: s12 :: .ow d :: g) kS = okR1 (φ (d :: ds)) fun s d1 => kS s (s0 :: s1 :: s2 :: s3 :: s4 :: s5 :: s6 :: s7 :: s8 :: s9 :: s10 :: s11 :: s12 :: .ow d1 :: g) := by
  show (match φ (d :: ds) with | .ok s [d1] => _ | _ => _) = _
  unfold okR1; split <;> rfl
@[simp ↓] theorem mu13ow {s0 s1 s2 s3 s4 s5 s6 s7 s8 s9 s10 s11 s12 : Sl} {op : List D → List D → Option (D × List D)} {ds : List D} : mutC 13 fs op (s0 :: s1 :: s2 :: s3 :: s4 :: s5 :: s6 :: s7 :: s8 :: s9 :: s10 :: s11 :: s12 :: .ow (.list ds) :: g) k = fs (s0 :: s1 :: s2 :: s3 :: s4 :: s5 :: s6 :: s7 :: s8 :: s9 :: s10 :: s11 :: s12 :: .ow (.list ds) :: g) fun as g' => muK 13 op as g' k := rfl
@[simp ↓] theorem mk13ow {s0 s1 s2 s3 s4 s5 s6 s7 s8 s9 s10 s11 s12 : Sl} {op : List D → List D → Option (D × List D)} {as ds : List D} : muK 13 op as (s0 :: s1 :: s2 :: s3 :: s4 :: s5 :: s6 :: s7 :: s8 :: s9 :: s10 :: s11 :: s12 :: .ow (.list ds) :: g) k = mutK (op ds as) fun r ds' => k r (s0 :: s1 :: s2 :: s3 :: s4 :: s5 :: s6 :: s7 :: s8 :: s9 :: s10 :: s11 :: s12 :: .ow (.list ds') :: g) := by
  show (match op ds as with | some (d, ds') => _ | none => _) = _
  unfold mutK; split <;> rfl
@[simp ↓] theorem pu13ow {s0 s1 s2 s3 s4 s5 s6 s7 s8 s9 s10 s11 s12 : Sl} {ds : List D} : putC 13 fi d (s0 :: s1 :: s2 :: s3 :: s4 :: s5 :: s6 :: s7 :: s8 :: s9 :: s10 :: s11 :: s12 :: .ow (.list ds) :: g) kT = fi (s0 :: s1 :: s2 :: s3 :: s4 :: s5 :: s6 :: s7 :: s8 :: s9 :: s10 :: s11 :: s12 :: .ow (.list ds) :: g) fun j g' => puK 13 d j g' kT := rfl
@[simp ↓] theorem pk13ow {s0 s1 s2 s3 s4 s5 s6 s7 s8 s9 s10 s11 s12 : Sl} {ds : List D} {n : Int} : puK 13 d (.int n) (s0 :: s1 :: s2 :: s3 :: s4 :: s5 :: s6 :: s7 :: s8 :: s9 :: s10 :: s11 :: s12 :: .ow (.list ds) :: g) kT = setK ds n d fun ds' => kT (s0 :: s1 :: s2 :: s3 :: s4 :: s5 :: s6 :: s7 :: s8 :: s9 :: s10 :: s11 :: s12 :: .ow (.list ds') :: g) := by
  show (match ixN ds.length n with | some m => _ | none => _) = _
  unfold setK; split <;> rfl
@[simp ↓] theorem au13ow {s0 s1 s2 s3 s4 s5 s6 s7 s8 s9 s10 s11 s12 : Sl} {ds : List D} {f : Int → Int → Int} : augT 13 fi fe f (s0 :: s1 :: s2 :: s3 :: s4 :: s5 :: s6 :: s7 :: s8 :: s9 :: s10 :: s11 :: s12 :: .ow (.list ds) :: g) kT = fi (s0 :: s1 :: s2 :: s3 :: s4 :: s5 :: s6 :: s7 :: s8 :: s9 :: s10 :: s11 :: s12 :: .ow (.list ds) :: g) fun j g' => auJ 13 fe f j g' kT := rfl
@[simp ↓] theorem aj13ow {s0 s1 s2 s3 s4 s5 s6 s7 s8 s9 s10 s11 s12 : Sl} {ds : List D} {f : Int → Int → Int} {n : Int} : auJ 13 fe f (.int n) (s0 :: s1 :: s2 :: s3 :: s4 :: s5 :: s6 :: s7 :: s8 :: s9 :: s10 :: s11 :: s12 :: .ow (.list ds) :: g) kT = augK ds n fun x => fe (s0 :: s1 :: s2 :: s3 :: s4 :: s5 :: s6 :: s7 :: s8 :: s9 :: s10 :: s11 :: s12 :: .ow (.list ds) :: g) fun y g2 => auK 13 f n x y g2 kT := by
  show (match ixN ds.length n with | some m => _ | none => _) = _
  unfold augK; split <;> rfl
@[simp ↓] theorem ak13ow {s0 s1 s2 s3 s4 s5 s6 s7 s8 s9 s10 s11 s12 : Sl} {ds : List D} {f : Int → Int → Int} {n x y : Int} : auK 13 f n x (.int y) (s0 :: s1 :: s2 :: s3 :: s4 :: s5 :: s6 :: s7 :: s8 :: s9 :: s10 :: s11 :: s12 :: .ow (.list ds) :: g) kT = setK ds n (.int (f x y)) fun ds' => kT (s0 :: s1 :: s2 :: s3 :: s4 :: s5 :: s6 :: s7 :: s8 :: s9 :: s10 :: s11 :: s12 :: .ow (.list ds') :: g) := by
  show (match ixN ds.length n with | some m => _ | none => _) = _
  unfold setK; split <;> rfl
@[simp ↓] theorem rc13rf {s0 s1 s2 s3 s4 s5 s6 s7 s8 s9 s10 s11 s12 : Sl} {φ : Fd} : callRC 13 φ fs (s0 :: s1 :: s2 :: s3 :: s4 :: s5 :: s6 :: s7 :: s8 :: s9 :: s10 :: s11 :: s12 :: .rf d :: g) kS = fs (s0 :: s1 :: s2 :: s3 :: s4 :: s5 :: s6 :: s7 :: s8 :: s9 :: s10 :: s11 :: s12 :: .rf d :: g) fun ds g' => rcK 13 φ ds g' kS := rfl
@[simp ↓] theorem rk13rf {s0 s1 s2 s3 s4 s5 s6 s7 s8 s9 s10 s11 s12 : Sl} {φ : Fd} {ds : List D} : rcK 13 φ ds (s0 :: s1 :: s2 :: s3 :: s4 :: s5 :: s6 :: s7 :: s8 :: s9 :: s10 :: s11 :: s12 :: .rf d :: g) kS = okR1 (φ (d :: ds)) fun s d1 => kS s (s0 :: s1 :: s2 :: s3 :: s4 :: s5 :: s6 :: s7 :: s8 :: s9 :: s10 :: s11 :: s12 :: .rf d1 :: g) := by
  show (match φ (d :: ds) with | .ok s [d1] => _ | _ => _) = _
  unfold okR1; split <;> rfl
@[simp ↓] theorem mu13rf {s0 s1 s2 s3 s4 s5 s6 s7 s8 s9 s10 s11 s12 : Sl} {op : List D → List D → Option (D × List D)} {ds : List D} : mutC 13 fs op (s0 :: s1 :: s2 :: s3 :: s4 :: s5 :: s6 :: s7 :: s8 :: s9 :: s10 :: s11 :: s12 :: .rf (.list ds) :: g) k = fs (s0 :: s1 :: s2 :: s3 :: s4 :: s5 :: s6 :: s7 :: s8 :: s9 :: s10 :: s11 :: s12 :: .rf (.list ds) :: g) fun as g' => muK 13 op as g' k := rfl
@[simp ↓] theorem mk13rf {s0 s1 s2 s3 s4 s5 s6 s7 s8 s9 s10 s11 s12 : Sl} {op : List D → List D → Option (D × List D)} {as ds : List D} : muK 13 op as (s0 :: s1 :: s2 :: s3 :: s4 :: s5 :: s6 :: s7 :: s8 :: s9 :: s10 :: s11 :: s12 :: .rf (.list ds) :: g) k = mutK (op ds as) fun r ds' => k r (s0 :: s1 :: s2 :: s3 :: s4 :: s5 :: s6 :: s7 :: s8 :: s9 :: s10 :: s11 :: s12 :: .rf (.list ds') :: g) := by
  show (match op ds as with | some (d, ds') => _ | none => _) = _
  unfold mutK; split <;> rfl
@[simp ↓] theorem pu13rf {s0 s1 s2 s3 s4 s5 s6 s7 s8 s9 s10 s11 s12 : Sl} {ds : List D} : putC 13 fi d (s0 :: s1 :: s2 :: s3 :: s4 :: s5 :: s6 :: s7 :: s8 :: s9 :: s10 :: s11 :: s12 :: .rf (.list ds) :: g) kT = fi (s0 :: s1 :: s2 :: s3 :: s4 :: s5 :: s6 :: s7 :: s8 :: s9 :: s10 :: s11 :: s12 :: .rf (.list ds) :: g) fun j g' => puK 13 d j g' kT := rfl
@[simp ↓] theorem pk13rf {s0 s1 s2 s3 s4 s5 s6 s7 s8 s9 s10 s11 s12 : Sl} {ds : List D} {n : Int} : puK 13 d (.int n) (s0 :: s1 :: s2 :: s3 :: s4 :: s5 :: s6 :: s7 :: s8 :: s9 :: s10 :: s11 :: s12 :: .rf (.list ds) :: g) kT = setK ds n d fun ds' => kT (s0 :: s1 :: s2 :: s3 :: s4 :: s5 :: s6 :: s7 :: s8 :: s9 :: s10 :: s11 :: s12 :: .rf (.list ds') :: g) := by
  show (match ixN ds.length n with | some m => _ | none => _) = _
  unfold setK; split <;> rfl
@[simp ↓] theorem au13rf {s0 s1 s2 s3 s4 s5 s6 s7 s8 s9 s10 s11 s12 : Sl} {ds : List D} {f : Int → Int → Int} : augT 13 fi fe f (s0 :: s1 :: s2 :: s3 :: s4 :: s5 :: s6 :: s7 :: s8 :: s9 :: s10 :: s11 :: s12 :: .rf (.list ds) :: g) kT = fi (s0 :: s1 :: s2 :: s3 :: s4 :: s5 :: s6 :: s7 :: s8 :: s9 :: s10 :: s11 :: s12 :: .rf (.list ds) :: g) fun j g' => auJ 13 fe f j g' kT := rfl
@[simp ↓] theorem aj13rf {s0 s1 s2 s3 s4 s5 s6 s7 s8 s9 s10 s11 s12 : Sl} {ds : List D} {f : Int → Int → Int} {n : Int} : auJ 13 fe f (.int n) (s0 :: s1 :: s2 :: s3 :: s4 :: s5 :: s6 :: s7 :: s8 :: s9 :: s10 :: s11 :: s12 :: .rf (.list ds) :: g) kT = augK ds n fun x => fe (s0 :: s1 :: s2 :: s3 :: s4 :: s5 :: s6 :: s7 :: s8 :: s9 :: s10 :: s11 :: s12 :: .rf (.list ds) :: g) fun y g2 => auK 13 f n x y g2 kT := by
  show (match ixN ds.length n with | some m => _ | none => _) = _
  unfold augK; split <;> rfl
@[simp ↓] theorem ak13rf {s0 s1 s2 s3 s4 s5 s6 s7 s8 s9 s10 s11 s12 : Sl} {ds : List D} {f : Int → Int → Int} {n x y : Int} : auK 13 f n x (.int y) (s0 :: s1 :: s2 :: s3 :: s4 :: s5 :: s6 :: s7 :: s8 :: s9 :: s10 :: s11 :: s12 :: .rf (.list ds) :: g) kT = setK ds n (.int (f x y)) fun ds' => kT (s0 :: s1 :: s2 :: s3 :: s4 :: s5 :: s6 :: s7 :: s8 :: s9 :: s10 :: s11 :: s12 :: .rf (.list ds') :: g) := by
  show (match ixN ds.length n with | some m => _ | none => _) = _
  unfold setK; split <;> rfl
@[simp ↓] theorem ag13 {s0 s1 s2 s3 s4 s5 s6 s7 s8 s9 s10 s11 s12 : Sl} {f : Int → Int → Int} {x : Int} : augN 13 fe f (s0 :: s1 :: s2 :: s3 :: s4 :: s5 :: s6 :: s7 :: s8 :: s9 :: s10 :: s11 :: s12 :: .sh (.int x) :: g) kT = fe (s0 :: s1 :: s2 :: s3 :: s4 :: s5 :: s6 :: s7 :: s8 :: s9 :: s10 :: s11 :: s12 :: .sh (.int x) :: g) fun y g' => kopO (intO y) g' fun y g' => stC 13 (.sh (.int (f x y))) g' kT := by
  show (fe _ _) = _
  congr 1; funext y g'; cases y <;> rfl
@[simp ↓] theorem rc14ow {s0 s1 s2 s3 s4 s5 s6 s7 s8 s9 s10 s11 s12 s13 : Sl} {φ : Fd} : callRC 14 φ fs (s0 :: s1 :: s2 :: s3 :: s4 :: s5 :: s6 :: s7 :: s8 :: s9 :: s10 :: s11 :: s12 :: s13 :: .ow d :: g) kS = fs (s0 :: s1 :: s2 :: s3 :: s4 :: s5 :: s6 :: s7 :: s8 :: s9 :: s10 :: s11 :: s12 :: s13 :: .ow d :: g) fun ds g' => rcK 14 φ ds g' kS := rfl
@[simp ↓] theorem rk14ow {s0 s1 s2 s3 s4 s5 s6 s7 s8 s9 s10 s11 s12 s13 : Sl} {φ : Fd} {ds : List D} : rcK 14 φ ds (s0 :: s1 :: s2 :: s3 :: s4 :: s5 :: s6 :: s7 :: s8 :: s9 :: s10 :: s11 :: s12 :: s13 :: .ow d :: g) kS = okR1 (φ (d :: ds)) fun s d1 => kS s (s0 :: s1 :: s2 :: s3 :: s4 :: s5 :: s6 :: s7 :: s8 :: s9 :: s10 :: s11 :: s12 :: s13 :: .ow d1 :: g) := by
  show (match φ (d :: ds) with | .ok s [d1] => _ | _ => _) = _
  unfold okR1; split <;> rfl
@[simp ↓] theorem mu14ow {s0 s1 s2 s3 s4 s5 s6 s7 s8 s9 s10 s11 s12 s13 : Sl} {op : List D → List D → Option (D × List D)} {ds : List D} : mutC 14 fs op (s0 :: s1 :: s2 :: s3 :: s4 :: s5 :: s6 :: s7 :: s8 :: s9 :: s10 :: s11 :: s12 :: s13 :: .ow (.list ds) :: g) k = fs (s0 :: s1 :: s2 :: s3 :: s4 :: s5 :: s6 :: s7 :: s8 :: s9 :: s10 :: s11 :: s12 :: s13 :: .ow (.list ds) :: g) fun as g' => muK 14 op as g' k := rfl
@[simp ↓] theorem mk14ow {s0 s1 s2 s3 s4 s5 s6 s7 s8 s9 s10 s11 s12 s13 : Sl} {op : List D → List D → Option (D × List D)} {as ds : List D} : muK 14 op as (s0 :: s1 :: s2 :: s3 :: s4 :: s5 :: s6 :: s7 :: s8 :: s9 :: s10 :: s11 :: s12 :: s13 :: .ow (.list ds) :: g) k = mutK (op ds as) fun r ds' => k r (s0 :: s1 :: s2 :: s3 :: s4 :: s5 :: s6 :: s7 :: s8 :: s9 :: s10 :: s11 :: s12 :: s13 :: .ow (.list ds') :: g) := by
  show (match op ds as with | some (d, ds') => _ | none => _) = _
  unfold mutK; split <;> rfl
@[simp ↓] theorem pu14ow {s0 s1 s2 s3 s4 s5 s6 s7 s8 s9 s10 s11 s12 s13 : Sl} {ds : List D} : putC 14 fi d (s0 :: s1 :: s2 :: s3 :: s4 :: s5 :: s6 :: s7 :: s8 :: s9 :: s10 :: s11 :: s12 :: s13 :: .ow (.list ds) :: g) kT = fi (s0 :: s1 :: s2 :: s3 :: s4 :: s5 :: s6 :: s7 :: s8 :: s9 :: s10 :: s11 :: s12 :: s13 :: .ow (.list ds) :: g) fun j g' => puK 14 d j g' kT := rfl
@[simp ↓] theorem pk14ow {s0 s1 s2 s3 s4 s5 s6 s7 s8 s9 s10 s11 s12 s13 : Sl} {ds : List D} {n : Int} : puK 14 d (.int n) (s0 :: s1 :: s2 :: s3 :: s4 :: s5 :: s6 :: s7 :: s8 :: s9 :: s10 :: s11 :: s12 :: s13 :: .ow (.list ds) :: g) kT = setK ds n d fun ds' => kT (s0 :: s1 :: s2 :: s3 :: s4 :: s5 :: s6 :: s7 :: s8 :: s9 :: s10 :: s11 :: s12 :: s13 :: .ow (.list ds') :: g) := by
  show (match ixN ds.length n with | some m => _ | none => _) = _
  unfold setK; split <;> rfl
@[simp ↓] theorem au14ow {s0 s1 s2 s3 s4 s5 s6 s7 s8 s9 s10 s11 s12 s13 : Sl} {ds : List D} {f : Int → Int → Int} : augT 14 fi fe f (s0 :: s1 :: s2 :: s3 :: s4 :: s5 :: s6 :: s7 :: s8 :: s9 :: s10 :: s11 :: s12 :: s13 :: .ow (.list ds) :: g) kT = fi (s0 :: s1 :: s2 :: s3 :: s4 :: s5 :: s6 :: s7 :: s8 :: s9 :: s10 :: s11 :: s12 :: s13 :: .ow (.list ds) :: g) fun j g' => auJ 14 fe f j g' kT := rfl
@[simp ↓] theorem aj14ow {s0 s1 s2 s3 s4 s5 s6 s7 s8 s9 s10 s11 s12 s13 : Sl} {ds : List D} {f : Int → Int → Int} {n : Int} : auJ 14 fe f (.int n) (s0 :: s1 :: s2 :: s3 :: s4 :: s5 :: s6 :: s7 :: s8 :: s9 :: s10 :: s11 :: s12 :: s13 :: .ow (.list ds) :: g) kT = augK ds n fun x => fe (s0 :: s1 :: s2 :: s3 :: s4 :: s5 :: s6 :: s7 :: s8 :: s9 :: s10 :: s11 :: s12 :: s13 :: .ow (.list ds) :: g) fun y g2 => auK 14 f n x y g2 kT := by
  show (match ixN ds.length n with | some m => _ | none => _) = _
  unfold augK; split <;> rfl
@[simp ↓] theorem ak14ow {s0 s1 s2 s3 s4 s5 s6 s7 s8 s9 s10 s11 s12 s13 : Sl} {ds : List D} {f : Int → Int → Int} {n x y : Int} : auK 14 f n x (.int y) (s0 :: s1 :: s2 :: s3 :: s4 :: s5 :: s6 :: s7 :: s8 :: s9 :: s10 :: s11 :: s12 :: s13 :: .ow (.list ds) :: g) kT = setK ds n (.int (f x y)) fun ds' => kT (s0 :: s1 :: s2 :: s3 :: s4 :: s5 :: s6 :: s7 :: s8 :: s9 :: s10 :: s11 :: s12 :: s13 :: .ow (.list ds') :: g) := by
  show (match ixN ds.length n with | some m => _ | none => _) = _
  unfold setK; split <;> rfl
@[simp ↓] theorem rc14rf {s0 s1 s2 s3 s4 s5 s6 s7 s8 s9 s10 s11 s12 s13 : Sl} {φ : Fd} : callRC 14 φ fs (s0 :: s1 :: s2 :: s3 :: s4 :: s5 :: s6 :: s7 :: s8 :: s9 :: s10 :: s11 :: s12 :: s13 :: .rf d :: g) kS = fs (s0 :: s1 :: s2 :: s3 :: s4 :: s5 :: s6 :: s7 :: s8 :: s9 :: s10 :: s11 :: s12 :: s13 :: .rf d :: g) fun ds g' => rcK 14 φ ds g' kS := rfl
@[simp ↓] theorem rk14rf {s0 s1 s2 s3 s4 s5 s6 s7 s8 s9 s10 s11 s12 s13 : Sl} {φ : Fd} {ds : List D} : rcK 14 φ ds (s0 :: s1 :: s2 :: s3 :: s4 :: s5 :: s6 :: s7 :: s8 :: s9 :: s10 :: s11 :: s12 :: s13 :: .rf d :: g) kS = okR1 (φ (d :: ds)) fun s d1 => kS s (s0 :: s1 :: s2 :: s3 :: s4 :: s5 :: s6 :: s7 :: s8 :: s9 :: s10 :: s11 :: s12 :: s13 :: .rf d1 :: g) := by
  show (match φ (d :: ds) with | .ok s [d1] => _ | _ => _) = _
  unfold okR1; split <;> rfl
@[simp ↓] theorem mu14rf {s0 s1 s2 s3 s4 s5 s6 s7 s8 s9 s10 s11 s12 s13 : Sl} {op : List D → List D → Option (D × List D)} {ds : List D} : mutC 14 fs op (s0 :: s1 :: s2 :: s3 :: s4 :: s5 :: s6 :: s7 :: s8 :: s9 :: s10 :: s11 :: s12 :: s13 :: .rf (.list ds) :: g) k = fs (s0 :: s1 :: s2 :: s3 :: s4 :: s5 :: s6 :: s7 :: s8 :: s9 :: s10 :: s11 :: s12 :: s13 :: .rf (.list ds) :: g) fun as g' => muK 14 op as g' k := rfl
@[simp ↓] theorem mk14rf {s0 s1 s2 s3 s4 s5 s6 s7 s8 s9 s10 s11 s12 s13 : Sl} {op : List D → List D → Option (D × List D)} {as ds : List D} : muK 14 op as (s0 :: s1 :: s2 :: s3 :: s4 :: s5 :: s6 :: s7 :: s8 :: s9 :: s10 :: s11 :: s12 :: s13 :: .rf (.list ds) :: g) k = mutK (op ds as) fun r ds' => k r (s0 :: s1 :: s2 :: s3 :: s4 :: s5 :: s6 :: s7 :: s8 :: s9 :: s10 :: s11 :: s12 :: s13 :: .rf (.list ds') :: g) := by
  show (match op ds as with | some (d, ds') => _ | none => _) = _
  unfold mutK; split <;> rfl
@[simp ↓] theorem pu14rf {s0 s1 s2 s3 s4 s5 s6 s7 s8 s9 s10 s11 s12 s13 : Sl} {ds : List D} : putC 14 fi d (s0 :: s1 :: s2 :: s3 :: s4 :: s5 :: s6 :: s7 :: s8 :: s9 :: s10 :: s11 :: s12 :: s13 :: .rf (.list ds) :: g) kT = fi (s0 :: s1 :: s2 :: s3 :: s4 :: s5 :: s6 :: s7 :: s8 :: s9 :: s10 :: s11 :: s12 :: s13 :: .rf (.list ds) :: g) fun j g' => puK 14 d j g' kT := rfl
@[simp ↓] theorem pk14rf {s0 s1 s2 s3 s4 s5 s6 s7 s8 s9 s10 s11 s12 s13 : Sl} {ds : List D} {n : Int} : puK 14 d (.int n) (s0 :: s1 :: s2 :: s3 :: s4 :: s5 :: s6 :: s7 :: s8 :: s9 :: s10 :: s11 :: s12 :: s13 :: .rf (.list ds) :: g) kT = setK ds n d fun ds' => kT (s0 :: s1 :: s2 :: s3 :: s4 :: s5 :: s6 :: s7 :: s8 :: s9 :: s10 :: s11 :: s12 :: s13 :: .rf (.list ds') :: g) := by
  show (match ixN ds.length n with | some m => _ | none => _) = _
  unfold setK; split <;> rfl
@[simp ↓] theorem au14rf {s0 s1 s2 s3 s4 s5 s6 s7 s8 s9 s10 s11 s12 s13 : Sl} {ds : List D} {f : Int → Int → Int} : augT 14 fi fe f (s0 :: s1 :: s2 :: s3 :: s4 :: s5 :: s6 :: s7 :: s8 :: s9 :: s10 :: s11 :: s12 :: s13 :: .rf (.list ds) :: g) kT = fi (s0 :: s1 :: s2 :: s3 :: s4 :: s5 :: s6 :: s7 :: s8 :: s9 :: s10 :: s11 :: s12 :: s13 :: .rf (.list ds) :: g) fun j g' => auJ 14 fe f j g' kT := rfl
@[simp ↓] theorem aj14rf {s0 s1 s2 s3 s4 s5 s6 s7 s8 s9 s10 s11 s12 s13 : Sl} {ds : List D} {f : Int → Int → Int} {n : Int} : auJ 14 fe f (.int n) (s0 :: s1 :: s2 :: s3 :: s4 :: s5 :: s6 :: s7 :: s8 :: s9 :: s10 :: s11 :: s12 :: s13 :: .rf (.list ds) :: g) kT = augK ds n fun x => fe (s0 :: s1 :: s2 :: s3 :: s4 :: s5 :: s6 :: s7 :: s8 :: s9 :: s10 :: s11 :: s12 :: s13 :: .rf (.list ds) :: g) fun y g2 => auK 14 f n x y g2 kT := by
  show (match ixN ds.length n with | some m => _ | none => _) = _
  unfold augK; split <;> rfl
@[simp ↓] theorem ak14rf {s0 s1 s2 s3 s4 s5 s6 s7 s8 s9 s10 s11 s12 s13 : Sl} {ds : List D} {f : Int → Int → Int} {n x y : Int} : auK 14 f n x (.int y) (s0 :: s1 :: s2 :: s3 :: s4 :: s5 :: s6 :: s7 :: s8 :: s9 :: s10 :: s11 :: s12 :: s13 :: .rf (.list ds) :: g) kT = setK ds n (.int (f x y)) fun ds' => kT (s0 :: s1 :: s2 :: s3 :: s4 :: s5 :: s6 :: s7 :: s8 :: s9 :: s10 :: s11 :: s12 :: s13 :: .rf (.list ds') :: g) := by
  show (match ixN ds.length n with | some m => _ | none => _) = _
  unfold setK; split <;> rfl
@[simp ↓] theorem ag14 {s0 s1 s2 s3 s4 s5 s6 s7 s8 s9 s10 s11 s12 s13 : Sl} {f : Int → Int → Int} {x : Int} : augN 14 fe f (s0 :: s1 :: s2 :: s3 :: s4 :: s5 :: s6 :: s7 :: s8 :: s9 :: s10 :: s11 :: s12 :: s13 :: .sh (.int x) :: g) kT = fe (s0 :: s1 :: s2 :: s3 :: s4 :: s5 :: s6 :: s7 :: s8 :: s9 :: s10 :: s11 :: s12 :: s13 :: .sh (.int x) :: g) fun y g' => kopO (intO y) g' fun y g' => stC 14 (.sh (.int (f x y))) g' kT := by
  show (fe _ _) = _
  congr 1; funext y g'; cases y <;> rfl
@[simp ↓] theorem rc15ow {s0 s1 s2 s3 s4 s5 s6 s7 s8 s9 s10 s11 s12 s13 s14 : Sl} {φ : Fd} : callRC 15 φ fs (s0 :: s1 :: s2 :: s3 :: s4 :: s5 :: s6 :: s7 :: s8 :: s9 :: s10 :: s11 :: s12 :: s13 :: s14 :: .ow d :: g) kS = fs (s0 :: s1 :: s2 :: s3 :: s4 :: s5 :: s6 :: s7 :: s8 :: s9 :: s10 :: s11 :: s12 :: s13 :: s14 :: .ow d :: g) fun ds g' => rcK 15 φ ds g' kS := rfl
@[simp ↓] theorem rk15ow {s0 s1 s2 s3 s4 s5 s6 s7 s8 s9 s10 s11 s12 s13 s14 : Sl} {φ : Fd} {ds : List D} : rcK 15 φ ds (s0 :: s1 :: s2 :: s3 :: s4 :: s5 :: s6 :: s7 :: s8 :: s9 :: s10 :: s11 :: s12 :: s13 :: s14 :: .ow d :: g) kS = okR1 (φ (d :: ds)) fun s d1 => kS s (s0 :: s1 :: s2 :: s3 :: s4 :: s5 :: s6 :: s7 :: s8 :: s9 :: s10 :: s11 :: s12 :: s13 :: s14 :: .ow d1 :: g) := by
  show (match φ (d :: ds) with | .ok s [d1] => _ | _ => _) = _
  unfold okR1; split <;> rfl
@[simp ↓] theorem mu15ow {s0 s1 s2 s3 s4 s5 s6 s7 s8 s9 s10 s11 s12 s13 s14 : Sl} {op : List D → List D → Option (D × List D)} {ds : List D} : mutC 15 fs op (s0 :: s1 :: s2 :: s3 :: s4 :: s5 :: s6 :: s7 :: s8 :: s9 :: s10 :: s11 :: s12 :: s13 :: s14 :: .ow (.list ds) :: g) k = fs (s0 :: s1 :: s2 :: s3 :: s4 :: s5 :: s6 :: s7 :: s8 :: s9 :: s10 :: s11 :: s12 :: s13 :: s14 :: .ow (.list ds) :: g) fun as g' => muK 15 op as g' k := rfl
@[simp ↓] theorem mk15ow {s0 s1 s2 s3 s4 s5 s6 s7 s8 s9 s10 s11 s12 s13 s14 : Sl} {op : List D → List D → Option (D × List D)} {as ds : List D} : muK 15 op as (s0 :: s1 :: s2 :: s3 :: s4 :: s5 :: s6 :: s7 :: s8 :: s9 :: s10 :: s11 :: s12 :: s13 :: s14 :: .ow (.list ds) :: g) k = mutK (op ds as) fun r ds' => k r (s0 :: s1 :: s2 :: s3 :: s4 :: s5 :: s6 :: s7 :: s8 :: s9 :: s10 :: s11 :: s12 :: s13 :: s14 :: .ow (.list ds') :: g) := by
  show (match op ds as with | some (d, ds') => _ | none => _) = _
  unfold mutK; split <;> rfl
@[simp ↓] theorem pu15ow {s0 s1 s2 s3 s4 s5 s6 s7 s8 s9 s10 s11 s12 s13 s14 : Sl} {ds : List D} : putC 15 fi d (s0 :: s1 :: s2 :: s3 :: s4 :: s5 :: s6 :: s7 :: s8 :: s9 :: s10 :: s11 :: s12 :: s13 :: s14 :: .ow (.list ds) :: g) kT = fi (s0 :: s1 :: s2 :: s3 :: s4 :: s5 :: s6 :: s7 :: s8 :: s9 :: s10 :: s11 :: s12 :: s13 :: s14 :: .ow (.list ds) :: g) fun j g' => puK 15 d j g' kT := rfl
@[simp ↓] theorem pk15ow {s0 s1 s2 s3 s4 s5 s6 s7 s8 s9 s10 s11 s12 s13 s14 : Sl} {ds : List D} {n : Int} : puK 15 d (.int n) (s0 :: s1 :: s2 :: s3 :: s4 :: s5 :: s6 :: s7 :: s8 :: s9 :: s10 :: s11 :: s12 :: s13 :: s14 :: .ow (.list ds) :: g) kT = setK ds n d fun ds' => kT (s0 :: s1 :: s2 :: s3 :: s4 :: s5 :: s6 :: s7 :: s8 :: s9 :: s10 :: s11 :: s12 :: s13 :: s14 :: .ow (.list ds') :: g) := by
  show (match ixN ds.length n with | some m => _ | none => _) = _
  unfold setK; split <;> rfl
@[simp ↓] theorem au15ow {s0 s1 s2 s3 s4 s5 s6 s7 s8 s9 s10 s11 s12 s13 s14 : Sl} {ds : List D} {f : Int → Int → Int} : augT 15 fi fe f (s0 :: s1 :: s2 :: s3 :: s4 :: s5 :: s6 :: s7 :: s8 :: s9 :: s10 :: s11 :: s12 :: s13 :: s14 :: .ow (.list ds) :: g) kT = fi (s0 :: s1 :: s2 :: s3 :: s4 :: s5 :: s6 :: s7 :: s8 :: s9 :: s10 :: s11 :: s12 :: s13 :: s14 :: .ow (.list ds) :: g) fun j g' => auJ 15 fe f j g' kT := rfl
@[simp ↓] theorem aj15ow {s0 s1 s2 s3 s4 s5 s6 s7 s8 s9 s10 s11 s12 s13 s14 : Sl} {ds : List D} {f : Int → Int → Int} {n : Int} : auJ 15 fe f (.int n) (s0 :: s1 :: s2 :: s3 :: s4 :: s5 :: s6 :: s7 :: s8 :: s9 :: s10 :: s11 :: s12 :: s13 :: s14 :: .ow (.list ds) :: g) kT = augK ds n fun x => fe (s0 :: s1 :: s2 :: s3 :: s4 :: s5 :: s6 :: s7 :: s8 :: s9 :: s10 :: s11 :: s12 :: s13 :: s14 :: .ow (.list ds) :: g) fun y g2 => auK 15 f n x y g2 kT := by
  show (match ixN ds.length n with | some m => _ | none => _) = _
  unfold augK; split <;> rfl
@[simp ↓] theorem ak15ow {s0 s1 s2 s3 s4 s5 s6 s7 s8 s9 s10 s11 s12 s13 s14 : Sl} {ds : List D} {f : Int → Int → Int} {n x y : Int} : auK 15 f n x (.int y) (s0 :: s1 :: s2 :: s3 :: s4 :: s5 :: s6 :: s7 :: s8 :: s9 :: s10 :: s11 :: s12 :: s13 :: s14 :: .ow (.list ds) :: g) kT = setK ds n (.int (f x y)) fun ds' => kT (s0 :: s1 :: s2 :: s3 :: s4 :: s5 :: s6 :: s7 :: s8 :: s9 :: s10 :: s11 :: s12 :: s13 :: s14 :: .ow (.list ds') :: g) := by
  show (match ixN ds.length n with | some m => _ | none => _) = _
  unfold setK; split <;> rfl
@[simp ↓] theorem rc15rf {s0 s1 s2 s3 s4 s5 s6 s7 s8 s9 s10 s11 s12 s13 s14 : Sl} {φ : Fd} : callRC 15 φ fs (s0 :: s1 :: s2 :: s3 :: s4 :: s5 :: s6 :: s7 :: s8 :: s9 :: s10 :: s11 :: s12 :: s13 :: s14 :: .rf d :: g) kS = fs (s0 :: s1 :: s2 :: s3 :: s4 :: s5 :: s6 :: s7 :: s8 :: s9 :: s10 :: s11 :: s12 :: s13 :: s14 :: .rf d :: g) fun ds g' => rcK 15 φ ds g' kS := rfl
@[simp ↓] theorem rk15rf {s0 s1 s2 s3 s4 s5 s6 s7 s8 s9 s10 s11 s12 s13 s14 : Sl} {φ : Fd} {ds : List D} : rcK 15 φ ds (s0 :: s1 :: s2 :: s3 :: s4 :: s5 :: s6 :: s7 :: s8 :: s9 :: s10 :: s11 :: s12 :: s13 :: s14 :: .rf d :: g) kS = okR1 (φ (d :: ds)) fun s d1 => kS s (s0 :: s1 :: s2 :: s3 :: s4 :: s5 :: s6 :: s7 :: s8 :: s9 :: s10 :: s11 :: s12 :: s13 :: s14 :: .rf d1 :: g) := by
  show (match φ (d :: ds) with | .ok s [d1] => _ | _ => _) = _
  unfold okR1; split <;> rfl
@[simp ↓] theorem mu15rf {s0 s1 s2 s3 s4 s5 s6 s7 s8 s9 s10 s11 s12 s13 s14 : Sl} {op : List D → List D → Option (D × List D)} {ds : List D} : mutC 15 fs op (s0 :: s1 :: s2 :: s3 :: s4 :: s5 :: s6 :: s7 :: s8 :: s9 :: s10 :: s11 :: s12 :: s13 :: s14 :: .rf (.list ds) :: g) k = fs (s0 :: s1 :: s2 :: s3 :: s4 :: s5 :: s6 :: s7 :: s8 :: s9 :: s10 :: s11 :: s12 :: s13 :: s14 :: .rf (.list ds) :: g) fun as g' => muK 15 op as g' k := rfl
@[simp ↓] theorem mk15rf {s0 s1 s2 s3 s4 s5 s6 s7 s8 s9 s10 s11 s12 s13 s14 : Sl} {op : List D → List D → Option (D × List D)} {as ds : List D} : muK 15 op as (s0 :: s1 :: s2 :: s3 :: s4 :: s5 :: s6 :: s7 :: s8 :: s9 :: s10 :: s11 :: s12 :: s13 :: s14 :: .rf (.list ds) :: g) k = mutK (op ds as) fun r ds' => k r (s0 :: s1 :: s2 :: s3 :: s4 :: s5 :: s6 :: s7 :: s8 :: s9 :: s10 :: s11 :: s12 :: s13 :: s14 :: .rf (.list ds') :: g) := by
  show (match op ds as with | some (d, ds') => _ | none => _) = _
  unfold mutK; split <;> rfl
@[simp ↓] theorem pu15rf {s0 s1 s2 s3 s4 s5 s6 s7 s8 s9 s10 s11 s12 s13 s14 : Sl} {ds : List D} : putC 15 fi d (s0 :: s1 :: s2 :: s3 :: s4 :: s5 :: s6 :: s7 :: s8 :: s9 :: s10 :: s11 :: s12 :: s13 :: s14 :: .rf (.list ds) :: g) kT = fi (s0 :: s1 :: s2 :: s3 :: s4 :: s5 :: s6 :: s7 :: s8 :: s9 :: s10 :: s11 :: s12 :: s13 :: s14 :: .rf (.list ds) :: g) fun j g' => puK 15 d j g' kT := rfl
@[simp ↓] theorem pk15rf {s0 s1 s2 s3 s4 s5 s6 s7 s8 s9 s10 s11 s12 s13 s14 : Sl} {ds : List D} {n : Int} : puK 15 d (.int n) (s0 :: s1 :: s2 :: s3 :: s4 :: s5 :: s6 :: s7 :: s8 :: s9 :: s10 :: s11 :: s12 :: s13 :: s14 :: .rf (.list ds) :: g) kT = setK ds n d fun ds' => kT (s0 :: s1 :: s2 :: s3 :: s4 :: s5 :: s6 :: s7 :: s8 :: s9 :: s10 :: s11 :: s12 :: s13 :: s14 :: .rf (.list ds') :: g) := by
  show (match ixN ds.length n with | some m => _ | none => _) = _
  unfold setK; split <;> rfl
@[simp ↓] theorem au15rf {s0 s1 s2 s3 s4 s5 s6 s7 s8 s9 s10 s11 s12 s13 s14 : Sl} {ds : List D} {f : Int → Int → Int} : augT 15 fi fe f (s0 :: s1 :: s2 :: s3 :: s4 :: s5 :: s6 :: s7 :: s8 :: s9 :: s10 :: s11 :: s12 :: s13 :: s14 :: .rf (.list ds) :: g) kT = fi (s0 :: s1 :: s2 :: s3 :: s4 :: s5 :: s6 :: s7 :: s8 :: s9 :: s10 :: s11 :: s12 :: s13 :: s14 :: .rf (.list ds) :: g) fun j g' => auJ 15 fe f j g' kT := rfl
@[simp ↓] theorem aj15rf {s0 s1 s2 s3 s4 s5 s6 s7 s8 s9 s10 s11 s12 s13 s14 : Sl} {ds : List D} {f : Int → Int → Int} {n : Int} : auJ 15 fe f (.int n) (s0 :: s1 :: s2 :: s3 :: s4 :: s5 :: s6 :: s7 :: s8 :: s9 :: s10 :: s11 :: s12 :: s13 :: s14 :: .rf (.list ds) :: g) kT = augK ds n fun x => fe (s0 :: s1 :: s2 :: s3 :: s4 :: s5 :: s6 :: s7 :: s8 :: s9 :: s10 :: s11 :: s12 :: s13 :: s14 :: .rf (.list ds) :: g) fun y g2 => auK 15 f n x y g2 kT := by
  show (match ixN ds.length n with | some m => _ | none => _) = _
  unfold augK; split <;> rfl
@[simp ↓] theorem ak15rf {s0 s1 s2 s3 s4 s5 s6 s7 s8 s9 s10 s11 s12 s13 s14 : Sl} {ds : List D} {f : Int → Int → Int} {n x y : Int} : auK 15 f n x (.int y) (s0 :: s1 :: s2 :: s3 :: s4 :: s5 :: s6 :: s7 :: s8 :: s9 :: s10 :: s11 :: s12 :: s13 :: s14 :: .rf (.list ds) :: g) kT = setK ds n (.int (f x y)) fun ds' => kT (s0 :: s1 :: s2 :: s3 :: s4 :: s5 :: s6 :: s7 :: s8 :: s9 :: s10 :: s11 :: s12 :: s13 :: s14 :: .rf (.list ds') :: g) := by
  show (match ixN ds.length n with | some m => _ | none => _) = _
  unfold setK; split <;> rfl
@[simp ↓] theorem ag15 {s0 s1 s2 s3 s4 s5 s6 s7 s8 s9 s10 s11 s12 s13 s14 : Sl} {f : Int → Int → Int} {x : Int} : augN 15 fe f (s0 :: s1 :: s2 :: s3 :: s4 :: s5 :: s6 :: s7 :: s8 :: s9 :: s10 :: s11 :: s12 :: s13 :: s14 :: .sh (.int x) :: g) kT = fe (s0 :: s1 :: s2 :: s3 :: s4 :: s5 :: s6 :: s7 :: s8 :: s9 :: s10 :: s11 :: s12 :: s13 :: s14 :: .sh (.int x) :: g) fun y g' => kopO (intO y) g' fun y g' => stC 15 (.sh (.int (f x y))) g' kT := by
  show (fe _ _) = _
  congr 1; funext y g'; cases y <;> rfl
@[simp ↓] theorem st_1_0 {a0 : D} {kl : List D → R} : setK [a0] 0 d kl = kl [d] := rfl
@[simp ↓] theorem sa_1_0 {a0 : D} {x : Int} {kl : Int → R} : augK [.int x] 0 kl = kl x := rfl
@[simp ↓] theorem st_2_0 {a0 a1 : D} {kl : List D → R} : setK [a0, a1] 0 d kl = kl [d, a1] := rfl
@[simp ↓] theorem sa_2_0 {a0 a1 : D} {x : Int} {kl : Int → R} : augK [.int x, a1] 0 kl = kl x := rfl
@[simp ↓] theorem st_2_1 {a0 a1 : D} {kl : List D → R} : setK [a0, a1] 1 d kl = kl [a0, d] := rfl
@[simp ↓] theorem sa_2_1 {a0 a1 : D} {x : Int} {kl : Int → R} : augK [a0, .int x] 1 kl = kl x := rfl
@[simp ↓] theorem st_3_0 {a0 a1 a2 : D} {kl : List D → R} : setK [a0, a1, a2] 0 d kl = kl [d, a1, a2] := rfl
@[simp ↓] theorem sa_3_0 {a0 a1 a2 : D} {x : Int} {kl : Int → R} : augK [.int x, a1, a2] 0 kl = kl x := rfl
@[simp ↓] theorem st_3_1 {a0 a1 a2 : D} {kl : List D → R} : setK [a0, a1, a2] 1 d kl = kl [a0, d, a2] := rfl
@[simp ↓] theorem sa_3_1 {a0 a1 a2 : D} {x : Int} {kl : Int → R} : augK [a0, .int x, a2] 1 kl = kl x := rfl
@[simp ↓] theorem st_3_2 {a0 a1 a2 : D} {kl : List D → R} : setK [a0, a1, a2] 2 d kl = kl [a0, a1, d] := rfl
@[simp ↓] theorem sa_3_2 {a0 a1 a2 : D} {x : Int} {kl : Int → R} : augK [a0, a1, .int x] 2 kl = kl x := rfl
@[simp ↓] theorem st_4_0 {a0 a1 a2 a3 : D} {kl : List D → R} : setK [a0, a1, a2, a3] 0 d kl = kl [d, a1, a2, a3] := rfl
@[simp ↓] theorem sa_4_0 {a0 a1 a2 a3 : D} {x : Int} {kl : Int → R} : augK [.int x, a1, a2, a3] 0 kl = kl x := rfl
@[simp ↓] theorem st_4_1 {a0 a1 a2 a3 : D} {kl : List D → R} : setK [a0, a1, a2, a3] 1 d kl = kl [a0, d, a2, a3] := rfl
@[simp ↓] theorem sa_4_1 {a0 a1 a2 a3 : D} {x : Int} {kl : Int → R} : augK [a0, .int x, a2, a3] 1 kl = kl x := rfl
@[simp ↓] theorem st_4_2 {a0 a1 a2 a3 : D} {kl : List D → R} : setK [a0, a1, a2, a3] 2 d kl = kl [a0, a1, d, a3] := rfl
@[simp ↓] theorem sa_4_2 {a0 a1 a2 a3 : D} {x : Int} {kl : Int → R} : augK [a0, a1, .int x, a3] 2 kl = kl x := rfl
@[simp ↓] theorem st_4_3 {a0 a1 a2 a3 : D} {kl : List D → R} : setK [a0, a1, a2, a3] 3 d kl = kl [a0, a1, a2, d] := rfl
@[simp ↓] theorem sa_4_3 {a0 a1 a2 a3 : D} {x : Int} {kl : Int → R} : augK [a0, a1, a2, .int x] 3 kl = kl x := rfl
@[simp ↓] theorem st_5_0 {a0 a1 a2 a3 a4 : D} {kl : List D → R} : setK [a0, a1, a2, a3, a4] 0 d kl = kl [d, a1, a2, a3, a4] := rfl
@[simp ↓] theorem sa_5_0 {a0 a1 a2 a3 a4 : D} {x : Int} {kl : Int → R} : augK [.int x, a1, a2, a3, a4] 0 kl = kl x := rfl
@[simp ↓] theorem st_5_1 {a0 a1 a2 a3 a4 : D} {kl : List D → R} : setK [a0, a1, a2, a3, a4] 1 d kl = kl [a0, d, a2, a3, a4] := rfl
@[simp ↓] theorem sa_5_1 {a0 a1 a2 a3 a4 : D} {x : Int} {kl : Int → R} : augK [a0, .int x, a2, a3, a4] 1 kl = kl x := rfl
@[simp ↓] theorem st_5_2 {a0 a1 a2 a3 a4 : D} {kl : List D → R} : setK [a0, a1, a2, a3, a4] 2 d kl = kl [a0, a1, d, a3, a4] := rfl
@[simp ↓] theorem sa_5_2 {a0 a1 a2 a3 a4 : D} {x : Int} {kl : Int → R} : augK [a0, a1, .int x, a3, a4] 2 kl = kl x := rfl
@[simp ↓] theorem st_5_3 {a0 a1 a2 a3 a4 : D} {kl : List D → R} : setK [a0, a1, a2, a3, a4] 3 d kl = kl [a0, a1, a2, d, a4] := rfl
@[simp ↓] theorem sa_5_3 {a0 a1 a2 a3 a4 : D} {x : Int} {kl : Int → R} : augK [a0, a1, a2, .int x, a4] 3 kl = kl x := rfl
@[simp ↓] theorem st_5_4 {a0 a1 a2 a3 a4 : D} {kl : List D → R} : setK [a0, a1, a2, a3, a4] 4 d kl = kl [a0, a1, a2, a3, d] := rfl
@[simp ↓] theorem sa_5_4 {a0 a1 a2 a3 a4 : D} {x : Int} {kl : Int → R} : augK [a0, a1, a2, a3, .int x] 4 kl = kl x := rfl
@[simp ↓] theorem st_6_0 {a0 a1 a2 a3 a4 a5 : D} {kl : List D → R} : setK [a0, a1, a2, a3, a4, a5] 0 d kl = kl [d, a1, a2, a3, a4, a5] := rfl
@[simp ↓] theorem sa_6_0 {a0 a1 a2 a3 a4 a5 : D} {x : Int} {kl : Int → R} : augK [.int x, a1, a2, a3, a4, a5] 0 kl = kl x := rfl
@[simp ↓] theorem st_6_1 {a0 a1 a2 a3 a4 a5 : D} {kl : List D → R} : setK [a0, a1, a2, a3, a4, a5] 1 d kl = kl [a0, d, a2, a3, a4, a5] := rfl
@[simp ↓] theorem sa_6_1 {a0 a1 a2 a3 a4 a5 : D} {x : Int} {kl : Int → R} : augK [a0, .int x, a2, a3, a4, a5] 1 kl = kl x := rfl
@[simp ↓] theorem st_6_2 {a0 a1 a2 a3 a4 a5 : D} {kl : List D → R} : setK [a0, a1, a2, a3, a4, a5] 2 d kl = kl [a0, a1, d, a3, a4, a5] := rfl
@[simp ↓] theorem sa_6_2 {a0 a1 a2 a3 a4 a5 : D} {x : Int} {kl : Int → R} : augK [a0, a1, .int x, a3, a4, a5] 2 kl = kl x := rfl
@[simp ↓] theorem st_6_3 {a0 a1 a2 a3 a4 a5 : D} {kl : List D → R} : setK [a0, a1, a2, a3, a4, a5] 3 d kl = kl [a0, a1, a2, d, a4, a5] := rfl
@[simp ↓] theorem sa_6_3 {a0 a1 a2 a3 a4 a5 : D} {x : Int} {kl : Int → R} : augK [a0, a1, a2, .int x, a4, a5] 3 kl = kl x := rfl
@[simp ↓] theorem st_6_4 {a0 a1 a2 a3 a4 a5 : D} {kl : List D → R} : setK [a0, a1, a2, a3, a4, a5] 4 d kl = kl [a0, a1, a2, a3, d, a5] := rfl
@[simp ↓] theorem sa_6_4 {a0 a1 a2 a3 a4 a5 : D} {x : Int} {kl : Int → R} : augK [a0, a1, a2, a3, .int x, a5] 4 kl = kl x := rfl
@[simp ↓] theorem st_6_5 {a0 a1 a2 a3 a4 a5 : D} {kl : List D → R} : setK [a0, a1, a2, a3, a4, a5] 5 d kl = kl [a0, a1, a2, a3, a4, d] := rfl
@[simp ↓] theorem sa_6_5 {a0 a1 a2 a3 a4 a5 : D} {x : Int} {kl : Int → R} : augK [a0, a1, a2, a3, a4, .int x] 5 kl = kl x := rfl
@[simp ↓] theorem m_app {ds : List D} {k2 : D → List D → R} (h : ds.length < sizeLine) : mutK (appO ds [d]) k2 = k2 .none (ds ++ [d]) := by
  simp only [appO, h, if_true]; rfl
@[simp ↓] theorem m_pop {ds : List D} {k2 : D → List D → R} : mutK (popO (ds ++ [d]) []) k2 = k2 d ds := by
  unfold popO; simp [mutK]
@[simp] theorem startG_nil {rf : List Nat} {i : Nat} : startG rf i [] = [] := rfl
@[simp] theorem startG_cons {rf : List Nat} {i : Nat} {ds : List D} : startG rf i (d :: ds) = (if i ∈ rf then .rf d else .sh d) :: startG rf (i + 1) ds := rfl
@[simp ↓] theorem endR_ret0 {s : Sl} : endR [] (.ret s g) = .ok s [] := rfl
@[simp ↓] theorem endR_ret1 {s : Sl} : endR [0] (.ret s (.rf d :: g)) = .ok s [d] := rfl
end
set_option Elab.async false
set_option linter.all false
set_option maxRecDepth 100000
open PySem L2
/-- the state of the numbers that are drawn -/
def stD (cs : List Int) (a b c : Int) : D := .list [.list (cs.map .int), .int a, .int b, .int c]
/-- such a state -/
def St (d : D) : Prop := ∃ cs a b c, d = stD cs a b c ∧ 0 ≤ a ∧ 0 ≤ b ∧ 0 ≤ c
theorem next_ok {s : D} (hs : St s) {m : Int} (hm : 0 < m) (hm2 : m < 1073741824) :
    ∃ v s', d__law_next [s, .int m] = .ok (.sh (.int v)) [s'] ∧ 0 ≤ v ∧ v < m ∧ St s' := by
  obtain ⟨cs, a, b, c, rfl, ha, hb, hc⟩ := hs
  have fin : ∀ {r : Rs} (v a' b' c' : Int), r = .ok (.sh (.int (v % m))) [stD cs a' b' c'] → 0 ≤ a' → 0 ≤ b' → 0 ≤ c' → ∃ v s', r = .ok (.sh (.int v)) [s'] ∧ 0 ≤ v ∧ v < m ∧ St s' :=
    fun v a' b' c' e h1 h2 h3 => ⟨_, _, e, Int.emod_nonneg _ (by omega), Int.emod_lt_of_pos _ hm, cs, a', b', c', rfl, h1, h2, h3⟩
  have hd : ∀ x : Int, 0 ≤ x → 0 ≤ x / m := fun x hx => Int.ediv_nonneg hx (by omega)
  have hp : ∀ x : Int, 0 ≤ x % 2147483647 := fun x => Int.emod_nonneg _ (by omega)
  unfold d__law_next b__law_next stD
  by_cases h1 : b = 0 ∧ a < cs.length
  · obtain ⟨rfl, h1⟩ := h1
    have hcell : ∃ x, cs[a.toNat]? = some x := ⟨cs[a.toNat]'(by omega), List.getElem?_eq_getElem _⟩
    obtain ⟨x, hx⟩ := hcell
    have hx' : atI (cs.map PyData.int) a = some (.int x) := by rw [zatI_nat a ha, List.getElem?_map, hx]; rfl
    have hk : ∀ g k, kopD (atI (cs.map PyData.int) a) g k = k (.int x) g := fun g k => zat_of hx'
    by_cases h2 : (1000000000000000000 : Int) ≤ x
    · have h3 : 0 < x := by omega
      simp [-Rs.ok.injEq, ↓hk, h1, h2, h3, hm, hm2]
      exact fin _ _ _ _ rfl (by omega) (hd x (by omega)) hc
    · simp [-Rs.ok.injEq, ↓hk, h1, h2, hm, hm2]
      exact fin _ _ _ _ rfl (by omega) (by omega) (hp _)
  · have h1' : ¬ (b = 0) ∨ ¬ a < cs.length := by
      by_cases hb0 : b = 0
      · exact .inr fun z => h1 ⟨hb0, z⟩
      · exact .inl hb0
    by_cases h4 : 0 < b
    · have hb0 : ¬ b = 0 := by omega
      simp [-Rs.ok.injEq, hb0, h4, hm, hm2]
      exact fin _ _ _ _ rfl ha (hd b hb) hc
    · have hb0 : b = 0 := by omega
      subst hb0
      have h5 : ¬ a < cs.length := h1'.elim (fun z => absurd rfl z) id
      simp [-Rs.ok.injEq, h5, hm, hm2]
      exact fin _ _ _ _ rfl ha hb (hp _)
theorem okR1_of {r : Rs} {s : Sl} {d : D} (h : r = .ok s [d]) {K : Sl → D → R} : okR1 r K = K s d := by rw [h]; rfl
theorem okR_of {r : Rs} {s : Sl} (h : r = .ok s []) {g : Gam} {K : KS} : okR r g K = K s g := by rw [h]; rfl
theorem next_k {s : D} (hs : St s) {m : Int} (hm : 0 < m) (hm2 : m < 1073741824) :
    ∃ v s', (∀ K, okR1 (d__law_next [s, .int m]) K = K (.sh (.int v)) s') ∧ 0 ≤ v ∧ v < m ∧ St s' := by
  obtain ⟨v, s', e, h⟩ := next_ok hs hm hm2
  exact ⟨v, s', fun K => okR1_of e, h⟩
set_option Elab.async false
set_option linter.all false
set_option maxRecDepth 100000
open PySem L2

/-! ### cuts -/
section
variable {α : Type} {ds : List α} {i j : Int}
theorem sIx_at {n d : Nat} (h : 0 ≤ i) : HT.sIx n d (some i) = min i.toNat n := by
  show (if i < 0 then (i + (n : Int)).toNat else min i.toNat n) = _
  rw [if_neg (by omega)]
theorem cut_to (h : 0 ≤ j) : cutL ds none (some j) = ds.take j.toNat := by
  unfold cutL
  rw [sIx_at h, HT.sIx_none, List.drop_zero, Nat.sub_zero]
  rcases Nat.le_total j.toNat ds.length with q | q
  · rw [Nat.min_eq_left q]
  · rw [Nat.min_eq_right q, List.take_of_length_le (Nat.le_refl _), List.take_of_length_le q]
theorem cut_from (h : 0 ≤ i) : cutL ds (some i) none = ds.drop i.toNat := by
  unfold cutL
  rw [sIx_at h, HT.sIx_none]
  rcases Nat.le_total i.toNat ds.length with q | q
  · rw [Nat.min_eq_left q, List.take_of_length_le (by rw [List.length_drop]; omega)]
  · rw [Nat.min_eq_right q, List.drop_length, List.drop_of_length_le q, List.take_nil]
theorem cut_at (h : 0 ≤ i) (h2 : 0 ≤ j) : cutL ds (some i) (some j) = (ds.drop i.toNat).take (j.toNat - i.toNat) := by
  unfold cutL
  rw [sIx_at h, sIx_at h2]
  rcases Nat.le_total i.toNat ds.length with q | q
  · rw [Nat.min_eq_left q]
    rcases Nat.le_total j.toNat ds.length with q2 | q2
    · rw [Nat.min_eq_left q2]
    · rw [Nat.min_eq_right q2, List.take_of_length_le (by rw [List.length_drop]; omega), List.take_of_length_le (by rw [List.length_drop]; omega)]
  · rw [Nat.min_eq_right q, List.drop_length, List.drop_of_length_le q, List.take_nil, List.take_nil]
theorem cut_last : cutL ds none (some (-1)) = ds.dropLast := by
  unfold cutL
  show ((ds.drop 0).take (((-1 : Int) + (ds.length : Int)).toNat - 0)) = _
  rw [List.drop_zero, List.dropLast_eq_take]
  congr 1; omega
theorem cut_in : cutL ds (some 1) (some (-1)) = ds.tail.dropLast := by
  unfold cutL
  rw [sIx_at (i := 1) (by omega)]
  show ((ds.drop (min (1 : Int).toNat ds.length)).take (((-1 : Int) + (ds.length : Int)).toNat - min (1 : Int).toNat ds.length)) = _
  cases ds with
  | nil => simp
  | cons a l =>
    have e : min (1 : Int).toNat (a :: l).length = 1 := by simp
    rw [e, List.drop_one, List.dropLast_eq_take, List.tail_cons]
    congr 1
    rw [List.length_cons]; omega
theorem cut_back (h : 0 < j) : cutL ds (some (-j)) none = ds.drop (ds.length - j.toNat) := by
  unfold cutL
  have e : HT.sIx ds.length 0 (some (-j)) = ds.length - j.toNat := by
    show (if -j < 0 then (-j + (ds.length : Int)).toNat else _) = _
    rw [if_pos (by omega)]; omega
  rw [e, HT.sIx_none, List.take_of_length_le (by rw [List.length_drop]; omega)]
theorem cut_len {lo hi : Option Int} : (cutL ds lo hi).length ≤ ds.length := by
  unfold cutL
  rw [List.length_take, List.length_drop]; omega
theorem cut_mem {lo hi : Option Int} {d : α} (h : d ∈ cutL ds lo hi) : d ∈ ds := List.mem_of_mem_drop (List.mem_of_mem_take h)
theorem cutS_len {z : Str} {lo hi : Option Int} : (cutS z lo hi).length ≤ z.length := L2.cutS_length z lo hi
theorem cutS_cps {z : Str} {lo hi : Option Int} : (cutS z lo hi).cps.toList = cutL z.cps.toList lo hi := by
  unfold cutS cutL
  rw [Array.length_toList]; rfl
end
theorem strOk_iff {z : Str} : PyData.strOk z = true ↔ ∀ c ∈ z.cps.toList, c < 0x110000 := by
  unfold PyData.strOk
  rw [← Array.all_toList, List.all_eq_true]
  simp
theorem strOk_cut {z : Str} {lo hi : Option Int} (h : PyData.strOk z = true) : PyData.strOk (cutS z lo hi) = true := by
  rw [strOk_iff] at h ⊢
  intro c hc
  rw [cutS_cps] at hc
  exact h c (cut_mem hc)
theorem append_cps {a b : Str} : (a ++ b).cps.toList = a.cps.toList ++ b.cps.toList := by
  show (a.cps ++ b.cps).toList = _
  simp
theorem strOk_add {a b : Str} (h : PyData.strOk a = true) (h2 : PyData.strOk b = true) : PyData.strOk (a ++ b) = true := by
  rw [strOk_iff] at *
  intro c hc
  rw [append_cps] at hc
  exact (List.mem_append.mp hc).elim (h c) (h2 c)
theorem strOk_rev {a : Str} (h : PyData.strOk a = true) : PyData.strOk (revS a) = true := by
  rw [strOk_iff] at *
  intro c hc
  have : c ∈ a.cps.toList.reverse := by simpa [revS] using hc
  exact h c (List.mem_reverse.mp this)
theorem len_add {a b : Str} : (a ++ b).length = a.length + b.length := by
  have := congrArg List.length (append_cps (a := a) (b := b))
  simpa [Str.length] using this
theorem len_rev {a : Str} : (revS a).length = a.length := by
  show a.cps.toList.reverse.toArray.size = a.cps.size
  simp

/-! ### small data -/
/-- whole numbers under 2 ^ s, texts, lists and tuples of at most s; n deep -/
def Tm (s : Nat) : Nat → D → Prop
  | _, .none => True
  | _, .bool _ => True
  | _, .int i => i.natAbs < 2 ^ s
  | _, .str x => PyData.strOk x = true ∧ x.length ≤ s
  | n + 1, .list ds => ds.length ≤ s ∧ ∀ d ∈ ds, Tm s n d
  | n + 1, .tuple ds => ds.length ≤ s ∧ ∀ d ∈ ds, Tm s n d
  | _, _ => False
section
variable {s s' n m : Nat} {d : D} {ds : List D} {x : Str} {i : Int} {b : Bool}
@[simp] theorem tm_none : Tm s n .none := by cases n <;> trivial
@[simp] theorem tm_bool : Tm s n (.bool b) := by cases n <;> trivial
@[simp] theorem tm_int : Tm s n (.int i) ↔ i.natAbs < 2 ^ s := by cases n <;> exact Iff.rfl
@[simp] theorem tm_str : Tm s n (.str x) ↔ PyData.strOk x = true ∧ x.length ≤ s := by cases n <;> exact Iff.rfl
@[simp] theorem tm_list : Tm s (n + 1) (.list ds) ↔ ds.length ≤ s ∧ ∀ d ∈ ds, Tm s n d := Iff.rfl
@[simp] theorem tm_tuple : Tm s (n + 1) (.tuple ds) ↔ ds.length ≤ s ∧ ∀ d ∈ ds, Tm s n d := Iff.rfl
theorem tm_dict {kvs : List (D × D)} : ¬ Tm s n (.dict kvs) := by cases n <;> exact fun z => z
theorem tm_list' (h : Tm s n (.list ds)) : ∃ m, n = m + 1 ∧ ds.length ≤ s ∧ ∀ d ∈ ds, Tm s m d := by
  cases n with
  | zero => exact h.elim
  | succ n => exact ⟨n, rfl, h⟩
theorem tm_tuple' (h : Tm s n (.tuple ds)) : ∃ m, n = m + 1 ∧ ds.length ≤ s ∧ ∀ d ∈ ds, Tm s m d := by
  cases n with
  | zero => exact h.elim
  | succ n => exact ⟨n, rfl, h⟩
theorem Tm.mono (hs : s ≤ s') : ∀ {n m : Nat} {d : D}, n ≤ m → Tm s n d → Tm s' m d
  | n, m, .none, _, _ => tm_none
  | n, m, .bool _, _, _ => tm_bool
  | n, m, .int i, _, h => tm_int.mpr (Nat.lt_of_lt_of_le (tm_int.mp h) (Nat.pow_le_pow_right (by omega) hs))
  | n, m, .str x, _, h => tm_str.mpr ⟨(tm_str.mp h).1, Nat.le_trans (tm_str.mp h).2 hs⟩
  | 0, m, .list ds, _, h => h.elim
  | 0, m, .tuple ds, _, h => h.elim
  | n, m, .dict _, _, h => (tm_dict h).elim
  | n + 1, 0, _, hn, _ => absurd hn (by omega)
  | n + 1, m + 1, .list ds, hn, h => ⟨Nat.le_trans h.1 hs, fun d hd => Tm.mono hs (Nat.le_of_succ_le_succ hn) (h.2 d hd)⟩
  | n + 1, m + 1, .tuple ds, hn, h => ⟨Nat.le_trans h.1 hs, fun d hd => Tm.mono hs (Nat.le_of_succ_le_succ hn) (h.2 d hd)⟩
theorem canLayAll_iff : ∀ {ds : List D}, PyData.canLayAll0 ds = true ↔ ∀ d ∈ ds, d.canLay0 = true
  | [] => by simp [PyData.canLayAll0]
  | d :: ds => by simp [PyData.canLayAll0, canLayAll_iff (ds := ds)]
theorem depthAll_le {k : Nat} : ∀ {ds : List D}, PyData.depthAll ds ≤ k ↔ ∀ d ∈ ds, d.depth ≤ k
  | [] => by simp [PyData.depthAll]
  | d :: ds => by simp [PyData.depthAll, Nat.max_le, depthAll_le (ds := ds)]
theorem Tm.lay : ∀ {n : Nat} {d : D}, Tm s n d → d.canLay0 = true ∧ d.depth ≤ n
  | n, .none, _ => by simp [PyData.canLay0, PyData.depth]
  | n, .bool _, _ => by simp [PyData.canLay0, PyData.depth]
  | n, .int _, _ => by simp [PyData.canLay0, PyData.depth]
  | n, .str x, h => by simp [PyData.canLay0, PyData.depth, (tm_str.mp h).1]
  | n, .dict _, h => (tm_dict h).elim
  | 0, .list _, h => h.elim
  | 0, .tuple _, h => h.elim
  | n + 1, .list ds, h => by
    have h1 : PyData.canLayAll0 ds = true := canLayAll_iff.mpr fun d hd => (Tm.lay (h.2 d hd)).1
    have h2 : PyData.depthAll ds ≤ n := depthAll_le.mpr fun d hd => (Tm.lay (h.2 d hd)).2
    simp only [PyData.canLay0, PyData.depth]
    exact ⟨h1, by omega⟩
  | n + 1, .tuple ds, h => by
    have h1 : PyData.canLayAll0 ds = true := canLayAll_iff.mpr fun d hd => (Tm.lay (h.2 d hd)).1
    have h2 : PyData.depthAll ds ≤ n := depthAll_le.mpr fun d hd => (Tm.lay (h.2 d hd)).2
    simp only [PyData.canLay0, PyData.depth]
    exact ⟨h1, by omega⟩
theorem Tm.ok (h : Tm s n d) (hn : n ≤ 64) : cmpOk d = true := by
  unfold cmpOk SeqAt.shaped
  rw [h.lay.1, Bool.true_and]
  exact decide_eq_true (Nat.le_trans h.lay.2 hn)
theorem atI_mem {k : Int} (h0 : 0 ≤ k) (h : k < ds.length) : ∃ d, d ∈ ds ∧ atI ds k = some d := by
  have hl : k.toNat < ds.length := by omega
  exact ⟨ds[k.toNat], List.getElem_mem hl, by rw [zatI_nat k h0, List.getElem?_eq_getElem hl]⟩
end
set_option Elab.async false
set_option linter.all false
set_option maxRecDepth 100000
open PySem L2

/-! ### comprehensions -/
section
variable {f : D → Gam → R} {vs : List Nat} {g g0 g3 : Gam} {kS : KS}
theorem compR_map (h : D → D) (G : D → Gam) : ∀ {ds : List D} {acc : List D}, (∀ d ∈ ds, f d (toRf g) = .va (.sh (h d)) (G d)) → (∀ d ∈ ds, (G d).length = g.length) → (∀ d ∈ ds, wipeG (back g (G d)) vs = g) →
    compR f vs ds g acc = some (acc ++ ds.map h, g)
  | [], acc, _, _, _ => by simp [compR]
  | d :: ds, acc, hf, hl, hb => by
    unfold compR
    simp only [hf d List.mem_cons_self, hl d List.mem_cons_self, hb d List.mem_cons_self, if_true]
    rw [compR_map h G (fun e he => hf e (List.mem_cons_of_mem _ he)) (fun e he => hl e (List.mem_cons_of_mem _ he)) fun e he => hb e (List.mem_cons_of_mem _ he)]
    simp
theorem compR_fil (p : D → Bool) (h : D → D) (G : D → Gam) : ∀ {ds : List D} {acc : List D}, (∀ d ∈ ds, f d (toRf g) = if p d = true then .va (.sh (h d)) (G d) else .nx (G d)) → (∀ d ∈ ds, (G d).length = g.length) → (∀ d ∈ ds, wipeG (back g (G d)) vs = g) →
    compR f vs ds g acc = some (acc ++ (ds.filter p).map h, g)
  | [], acc, _, _, _ => by simp [compR]
  | d :: ds, acc, hf, hl, hb => by
    unfold compR
    rw [hf d List.mem_cons_self]
    have ih := fun acc => compR_fil p h G (ds := ds) (acc := acc) (fun e he => hf e (List.mem_cons_of_mem _ he)) (fun e he => hl e (List.mem_cons_of_mem _ he)) fun e he => hb e (List.mem_cons_of_mem _ he)
    cases hp : p d with
    | true =>
      simp only [hl d List.mem_cons_self, hb d List.mem_cons_self, if_true]
      rw [ih]; simp [hp]
    | false =>
      simp only [Bool.false_eq_true, if_false, hl d List.mem_cons_self, hb d List.mem_cons_self, if_true]
      rw [ih]; simp [hp]
theorem restW_self {vs : List Nat} {g : Gam} : restW vs g (wipeG g vs) = g := by
  apply List.ext_getElem?
  intro i
  unfold restW
  rw [List.getElem?_map, wipeG_length]
  by_cases hi : i < g.length
  · rw [List.getElem?_range hi]
    show some (if i ∈ vs then (g[i]?).getD .no else ((wipeG g vs)[i]?).getD .no) = g[i]?
    rw [wipeG_get]
    by_cases hv : i ∈ vs
    · rw [if_pos hv, List.getElem?_eq_getElem hi]; rfl
    · rw [if_neg hv, if_neg hv, List.getElem?_eq_getElem hi]; rfl
  · rw [List.getElem?_eq_none (by simpa using hi), List.getElem?_eq_none (by simpa using hi)]; rfl
theorem lcK_map (h : D → D) (G : D → Gam) {ds : List D} (hw : okW vs g = true) (h0 : wipeG g vs = g0) (hl : ∀ d ∈ ds, (G d).length = g0.length) (hb : ∀ d ∈ ds, wipeG (back g0 (G d)) vs = g0) (hf : ∀ d ∈ ds, f d (toRf g0) = .va (.sh (h d)) (G d)) :
    lcK vs f ds g kS = kS (.ow (.list (ds.map h))) g := lcK_of hw (by rw [h0]; simpa using compR_map (acc := []) h G hf hl hb) (by rw [← h0]; exact restW_self)
theorem lcK_fil (p : D → Bool) (h : D → D) (G : D → Gam) {ds : List D} (hw : okW vs g = true) (h0 : wipeG g vs = g0) (hl : ∀ d ∈ ds, (G d).length = g0.length) (hb : ∀ d ∈ ds, wipeG (back g0 (G d)) vs = g0) (hf : ∀ d ∈ ds, f d (toRf g0) = if p d = true then .va (.sh (h d)) (G d) else .nx (G d)) :
    lcK vs f ds g kS = kS (.ow (.list ((ds.filter p).map h))) g := lcK_of hw (by rw [h0]; simpa using compR_fil (acc := []) p h G hf hl hb) (by rw [← h0]; exact restW_self)
theorem compR_enc {γ : Type} (enc h : γ → D) (p : γ → Bool) (G : γ → Gam) : ∀ {xs : List γ} {acc : List D}, (∀ x ∈ xs, f (enc x) (toRf g) = if p x = true then .va (.sh (h x)) (G x) else .nx (G x)) → (∀ x ∈ xs, (G x).length = g.length) → (∀ x ∈ xs, wipeG (back g (G x)) vs = g) →
    compR f vs (xs.map enc) g acc = some (acc ++ (xs.filter p).map h, g)
  | [], acc, _, _, _ => by simp [compR]
  | d :: ds, acc, hf, hl, hb => by
    rw [List.map_cons]
    unfold compR
    rw [hf d List.mem_cons_self]
    have ih := fun acc => compR_enc enc h p G (xs := ds) (acc := acc) (fun e he => hf e (List.mem_cons_of_mem _ he)) (fun e he => hl e (List.mem_cons_of_mem _ he)) fun e he => hb e (List.mem_cons_of_mem _ he)
    cases hp : p d with
    | true =>
      simp only [hl d List.mem_cons_self, hb d List.mem_cons_self, if_true]
      rw [ih]; simp [hp]
    | false =>
      simp only [Bool.false_eq_true, if_false, hl d List.mem_cons_self, hb d List.mem_cons_self, if_true]
      rw [ih]; simp [hp]
theorem lcK_encF {γ : Type} (enc h : γ → D) (p : γ → Bool) (G : γ → Gam) {xs : List γ} (hw : okW vs g = true) (h0 : wipeG g vs = g0) (hl : ∀ x ∈ xs, (G x).length = g0.length) (hb : ∀ x ∈ xs, wipeG (back g0 (G x)) vs = g0) (hf : ∀ x ∈ xs, f (enc x) (toRf g0) = if p x = true then .va (.sh (h x)) (G x) else .nx (G x)) :
    lcK vs f (xs.map enc) g kS = kS (.ow (.list ((xs.filter p).map h))) g := lcK_of hw (by rw [h0]; simpa using compR_enc (acc := []) enc h p G hf hl hb) (by rw [← h0]; exact restW_self)
theorem lcK_enc {γ : Type} (enc h : γ → D) (G : γ → Gam) {xs : List γ} (hw : okW vs g = true) (h0 : wipeG g vs = g0) (hl : ∀ x ∈ xs, (G x).length = g0.length) (hb : ∀ x ∈ xs, wipeG (back g0 (G x)) vs = g0) (hf : ∀ x ∈ xs, f (enc x) (toRf g0) = .va (.sh (h x)) (G x)) :
    lcK vs f (xs.map enc) g kS = kS (.ow (.list (xs.map h))) g := by
  have := lcK_encF (f := f) (kS := kS) enc h (fun _ => true) G hw h0 hl hb (fun x hx => by rw [hf x hx]; rfl)
  rw [List.filter_eq_self.mpr (fun _ _ => rfl)] at this
  exact this
/-- one that draws: the slots by a state b -/
theorem compR_st {β : Type} (S : β → Gam) (P : β → Prop) (Q : D → Prop) : ∀ {ds : List D}, (∀ b d, d ∈ ds → P b → ∃ y b' g', f d (toRf (S b)) = .va (.sh y) g' ∧ g'.length = (S b).length ∧ wipeG (back (S b) g') vs = S b' ∧ P b' ∧ Q y) →
    ∀ {b : β} {acc : List D}, P b → ∃ out b', compR f vs ds (S b) acc = some (acc ++ out, S b') ∧ P b' ∧ out.length = ds.length ∧ ∀ d ∈ out, Q d
  | [], _, b, acc, hb => ⟨[], b, by simp [compR], hb, rfl, by simp⟩
  | d :: ds, hstep, b, acc, hb => by
    obtain ⟨y, b1, g', e1, e2, e3, e4, e5⟩ := hstep b d List.mem_cons_self hb
    obtain ⟨out, b2, h1, h2, h3, h4⟩ := compR_st S P Q (ds := ds) (fun b e he => hstep b e (List.mem_cons_of_mem _ he)) (b := b1) (acc := acc ++ [y]) e4
    refine ⟨y :: out, b2, ?_, h2, by rw [List.length_cons, List.length_cons, h3], ?_⟩
    · unfold compR
      simp only [e1, e2, e3, if_true]
      rw [h1]; simp
    · intro e he
      rcases List.mem_cons.mp he with rfl | he
      · exact e5
      · exact h4 e he
/-- .. as a whole: T b the slots behind -/
theorem lcK_st {β : Type} (S T : β → Gam) (P : β → Prop) (Q : D → Prop) {ds : List D} {b : β} (hw : okW vs g = true) (h0 : wipeG g vs = S b) (h3 : ∀ b', restW vs g (S b') = T b') (hb : P b)
    (hstep : ∀ b d, d ∈ ds → P b → ∃ y b' g', f d (toRf (S b)) = .va (.sh y) g' ∧ g'.length = (S b).length ∧ wipeG (back (S b) g') vs = S b' ∧ P b' ∧ Q y) :
    ∃ out b', (∀ kS : KS, lcK vs f ds g kS = kS (.ow (.list out)) (T b')) ∧ P b' ∧ out.length = ds.length ∧ ∀ d ∈ out, Q d := by
  obtain ⟨out, b', e, h1, h2, h3'⟩ := compR_st S P Q hstep (acc := []) hb
  exact ⟨out, b', fun kS => lcK_of hw (by rw [h0]; simpa using e) (h3 b'), h1, h2, h3'⟩
/-! ### for -/
/-- a loop that goes through: the slots by a state b -/
theorem forR_st {β : Type} (S : β → Gam) (step : β → D → β) (P : β → Prop) (hstep : ∀ b d, P b → P (step b d) ∧ ∃ g', f d (S b) = .nx g' ∧ g'.length = g0.length ∧ mask g0 g' = S (step b d)) :
    ∀ {ds : List D} {b : β}, P b → forR f g0 ds (S b) = .nx (S (ds.foldl step b)) ∧ P (ds.foldl step b)
  | [], b, hb => ⟨rfl, hb⟩
  | d :: ds, b, hb => by
    obtain ⟨h1, g', e1, e2, e3⟩ := hstep b d hb
    unfold forR
    simp only [e1, e2, e3, if_true]
    exact forR_st S step P hstep h1
/-- a loop that may end with False -/
theorem forR_all {β : Type} (S : β → Gam) (P : β → Prop) (r : β → D → Option R) (hstep : ∀ b d, P b → (∃ x, r b d = some x ∧ f d (S b) = x ∧ ∃ s g, x = .ret s g) ∨ (r b d = none ∧ ∃ b' g', f d (S b) = .nx g' ∧ g'.length = g0.length ∧ mask g0 g' = S b' ∧ P b')) :
    ∀ {ds : List D} {b : β}, P b → (∃ b', forR f g0 ds (S b) = .nx (S b') ∧ P b') ∨ ∃ s g, forR f g0 ds (S b) = .ret s g
  | [], b, hb => .inl ⟨b, rfl, hb⟩
  | d :: ds, b, hb => by
    rcases hstep b d hb with ⟨x, _, e2, s, g, e3⟩ | ⟨_, b', g', e1, e2, e3, e4⟩
    · subst e3
      exact .inr ⟨s, g, by unfold forR; rw [e2]⟩
    · unfold forR
      simp only [e1, e2, e3, if_true]
      exact forR_all S P r hstep e4
/-- a loop of draws that goes through -/
theorem forR_ex {β : Type} (S : β → Gam) (P : β → Prop) (hstep : ∀ b d, P b → ∃ b' g', f d (S b) = .nx g' ∧ g'.length = g0.length ∧ mask g0 g' = S b' ∧ P b') :
    ∀ {ds : List D} {b : β}, P b → ∃ b', forR f g0 ds (S b) = .nx (S b') ∧ P b'
  | [], b, hb => ⟨b, rfl, hb⟩
  | d :: ds, b, hb => by
    obtain ⟨b', g', e1, e2, e3, e4⟩ := hstep b d hb
    unfold forR
    simp only [e1, e2, e3, if_true]
    exact forR_ex S P hstep e4
/-- a loop, by the number of its turn: it goes through, or returns -/
theorem forR_idx {β : Type} (S : β → Gam) (P : Nat → β → Prop) (Q : Sl → Gam → Prop) : ∀ {ds : List D} {n : Nat} {b : β}, (∀ i b d, ds[i]? = some d → P (n + i) b → (∃ b' g', f d (S b) = .nx g' ∧ g'.length = g0.length ∧ mask g0 g' = S b' ∧ P (n + i + 1) b') ∨ ∃ s g, f d (S b) = .ret s g ∧ Q s g) →
    P n b → (∃ b', forR f g0 ds (S b) = .nx (S b') ∧ P (n + ds.length) b') ∨ ∃ s g, forR f g0 ds (S b) = .ret s g ∧ Q s g
  | [], n, b, _, hb => .inl ⟨b, rfl, hb⟩
  | d :: ds, n, b, hstep, hb => by
    rcases hstep 0 b d rfl hb with ⟨b', g', e1, e2, e3, e4⟩ | ⟨s, g, e1, e2⟩
    · have := forR_idx S P Q (ds := ds) (n := n + 1) (b := b') (fun i b e he hp => by
        have := hstep (i + 1) b e (by simpa using he) (by have e : n + (i + 1) = n + 1 + i := by omega
                                                          rw [e]; exact hp)
        have e : n + (i + 1) + 1 = n + 1 + i + 1 := by omega
        rw [e] at this
        exact this) e4
      unfold forR
      simp only [e1, e2, e3, if_true]
      have e : n + (d :: ds).length = n + 1 + ds.length := by rw [List.length_cons]; omega
      rw [e]
      exact this
    · exact .inr ⟨s, g, by unfold forR; rw [e1], e2⟩
/-- a loop that goes through, by the number of its turn -/
theorem forR_nx {β : Type} (S : β → Gam) (P : Nat → β → Prop) {ds : List D} {b : β} (hstep : ∀ i b d, ds[i]? = some d → P i b → ∃ b' g', f d (S b) = .nx g' ∧ g'.length = g0.length ∧ mask g0 g' = S b' ∧ P (i + 1) b') (hb : P 0 b) :
    ∃ b', forR f g0 ds (S b) = .nx (S b') ∧ P ds.length b' := by
  rcases forR_idx (f := f) (g0 := g0) S P (fun _ _ => False) (ds := ds) (n := 0) (b := b) (fun i b d h hp => .inl (by
    have := hstep i b d h (by simpa using hp)
    simpa using this)) hb with ⟨b', e, h⟩ | ⟨_, _, _, h⟩
  · exact ⟨b', e, by simpa using h⟩
  · exact h.elim
/-- a loop over encoded things; P by what is still to come -/
theorem forR_map {β γ : Type} (enc : γ → D) (S : β → Gam) (step : β → γ → β) (P : Nat → β → Prop) : ∀ {xs : List γ} {b : β}, (∀ n b x, x ∈ xs → P (n + 1) b → P n (step b x) ∧ ∃ g', f (enc x) (S b) = .nx g' ∧ g'.length = g0.length ∧ mask g0 g' = S (step b x)) →
    P xs.length b → forR f g0 (xs.map enc) (S b) = .nx (S (xs.foldl step b))
  | [], b, _, hb => rfl
  | x :: xs, b, hstep, hb => by
    obtain ⟨h1, g', e1, e2, e3⟩ := hstep xs.length b x List.mem_cons_self hb
    rw [List.map_cons]
    unfold forR
    simp only [e1, e2, e3, if_true]
    exact forR_map enc S step P (fun n b y hy => hstep n b y (List.mem_cons_of_mem _ hy)) h1
theorem forR_exI {β : Type} (S : β → Gam) (P : β → Prop) {ds : List D} (hstep : ∀ b d, d ∈ ds → P b → ∃ b' g', f d (S b) = .nx g' ∧ g'.length = g0.length ∧ mask g0 g' = S b' ∧ P b') :
    ∀ {b : β}, P b → ∃ b', forR f g0 ds (S b) = .nx (S b') ∧ P b' := by
  induction ds with
  | nil => exact fun {b} hb => ⟨b, rfl, hb⟩
  | cons d ds ih =>
    intro b hb
    obtain ⟨b', g', e1, e2, e3, e4⟩ := hstep b d List.mem_cons_self hb
    unfold forR
    simp only [e1, e2, e3, if_true]
    exact ih (fun b e he => hstep b e (List.mem_cons_of_mem _ he)) e4
end
set_option Elab.async false
set_option linter.all false
set_option maxRecDepth 100000
open PySem L2

/-! ### texts that repr makes -/
abbrev cpl (x : Str) : List Nat := x.cps.toList
theorem str_ext {x y : Str} (h : cpl x = cpl y) : x = y := PySem.W.str_of_cps h
def dg (m : Nat) : List Nat := (Nat.toDigits 10 m).map Char.toNat
theorem dg_num (m : Nat) : cpl (Str.ofString (toString ((m : Nat) : Int))) = dg m := PySem.W.KIN.signs_num m
theorem dg_neg (m : Nat) : cpl (Str.ofString (toString (Int.negSucc m))) = 45 :: dg (m + 1) := by
  show cpl (Str.ofString ("-" ++ (m + 1).repr)) = _
  rw [cpl, PyProof.Rows.signs_ofString]
  rw [String.toList_append, Nat.toList_repr]
  rfl
theorem dg_ne {m : Nat} : dg m ≠ [] := by
  unfold dg
  intro h
  exact Nat.toDigits_ne_nil (List.map_eq_nil_iff.mp h)
theorem dg_dig {m c : Nat} (h : c ∈ dg m) : 48 ≤ c ∧ c ≤ 57 := by
  unfold dg at h
  obtain ⟨ch, hch, rfl⟩ := List.mem_map.mp h
  have := Nat.isDigit_of_mem_toDigits (by decide) (by decide) hch
  exact PyProof.Rows.digit_range this
theorem dg_inj {m n : Nat} (h : dg m = dg n) : m = n := by
  have := congrArg PySem.NumText.digitsVal h
  unfold dg at this
  rwa [PySem.W.KIN.val_back, PySem.W.KIN.val_back] at this
/-- nothing, or a sign that ends a number -/
def stopL (r : List Nat) : Prop := r = [] ∨ ∃ c l, r = c :: l ∧ (c = 44 ∨ c = 41 ∨ c = 93)
theorem dg_split : ∀ {l m r s : List Nat}, (∀ c ∈ l, 48 ≤ c ∧ c ≤ 57) → (∀ c ∈ m, 48 ≤ c ∧ c ≤ 57) → stopL r → stopL s → l ++ r = m ++ s → l = m ∧ r = s
  | [], [], _, _, _, _, _, _, h => ⟨rfl, h⟩
  | [], c :: m, r, s, _, hm, hr, _, h => by
    have hc := hm c List.mem_cons_self
    rcases hr with rfl | ⟨d, l, rfl, hd⟩
    · cases h
    · simp at h; omega
  | c :: l, [], r, s, hl, _, _, hs, h => by
    have hc := hl c List.mem_cons_self
    rcases hs with rfl | ⟨d, l', rfl, hd⟩
    · cases h
    · simp at h; omega
  | c :: l, d :: m, r, s, hl, hm, hr, hs, h => by
    simp only [List.cons_append, List.cons.injEq] at h
    obtain ⟨h1, h2⟩ := dg_split (fun x hx => hl x (List.mem_cons_of_mem _ hx)) (fun x hx => hm x (List.mem_cons_of_mem _ hx)) hr hs h.2
    exact ⟨by rw [h.1, h1], h2⟩
/-- a text of plain signs: it is written as it is -/
def plainS (x : Str) : Bool := (cpl x).all fun c => Unicode.isPrintable c && (c != 39 && (c != 92 && decide (c < 0x110000)))
theorem repr_cps (x : Str) : cpl (reprText x) = reprQuote x :: ((cpl x).flatMap (Builtin.Str.reprChar (reprQuote x)) ++ [reprQuote x]) := by
  have key : ∀ (q : Nat) (l : List Nat) (acc : Array Nat), (l.foldl (fun out c => out ++ (Builtin.Str.reprChar q c).toArray) acc).toList = acc.toList ++ l.flatMap (Builtin.Str.reprChar q) := by
    intro q l
    induction l with
    | nil => intro acc; simp
    | cons c l ih => intro acc; rw [List.foldl_cons, ih]; simp
  unfold reprText cpl
  rw [Array.toList_push, ← Array.foldl_toList, key]
  simp
theorem reprChar_cases (c : Nat) : (Builtin.Str.reprChar 39 c = [c] ∧ c ≠ 39) ∨ ∃ t, Builtin.Str.reprChar 39 c = 92 :: t := by
  unfold Builtin.Str.reprChar
  dsimp only
  by_cases h1 : (c == 39 || c == 92) = true
  · rw [if_pos h1]; exact .inr ⟨_, rfl⟩
  · rw [if_neg h1]
    have hc : c ≠ 39 := fun z => h1 (by rw [z]; rfl)
    split
    · exact .inr ⟨_, rfl⟩
    · split
      · exact .inr ⟨_, rfl⟩
      · split
        · exact .inr ⟨_, rfl⟩
        · split
          · exact .inl ⟨rfl, hc⟩
          · split
            · exact .inr ⟨_, rfl⟩
            · split
              · exact .inr ⟨_, rfl⟩
              · exact .inr ⟨_, rfl⟩
theorem reprChar_plain {c : Nat} (h : Unicode.isPrintable c = true) (h1 : c ≠ 39) (h2 : c ≠ 92) : Builtin.Str.reprChar 39 c = [c] := by
  unfold Builtin.Str.reprChar
  dsimp only
  have e1 : (c == 39 || c == 92) = false := by simp [h1, h2]
  have e2 : (c == 10) = false := by
    rw [beq_eq_false_iff_ne]; rintro rfl; revert h; decide +kernel
  have e3 : (c == 13) = false := by
    rw [beq_eq_false_iff_ne]; rintro rfl; revert h; decide +kernel
  have e4 : (c == 9) = false := by
    rw [beq_eq_false_iff_ne]; rintro rfl; revert h; decide +kernel
  simp only [e1, e2, e3, e4, h, if_true, Bool.false_eq_true, if_false]
theorem plain_body : ∀ {m : List Nat}, (∀ c ∈ m, Unicode.isPrintable c = true ∧ c ≠ 39 ∧ c ≠ 92) → m.flatMap (Builtin.Str.reprChar 39) = m
  | [], _ => rfl
  | c :: m, h => by
    have hc := h c List.mem_cons_self
    rw [List.flatMap_cons, reprChar_plain hc.1 hc.2.1 hc.2.2, plain_body fun d hd => h d (List.mem_cons_of_mem _ hd)]; rfl
theorem body_split : ∀ {l m r s : List Nat}, (∀ c ∈ m, c ≠ 39 ∧ c ≠ 92) → l.flatMap (Builtin.Str.reprChar 39) ++ 39 :: r = m ++ 39 :: s → l = m ∧ r = s
  | [], [], _, _, _, h => ⟨rfl, by simpa using h⟩
  | [], d :: m, _, _, hm, h => by
    have := hm d List.mem_cons_self
    simp at h; omega
  | c :: l, [], r, s, _, h => by
    rcases reprChar_cases c with ⟨e, hc⟩ | ⟨t, e⟩
    · rw [List.flatMap_cons, e] at h; simp at h; omega
    · rw [List.flatMap_cons, e] at h; simp at h
  | c :: l, d :: m, r, s, hm, h => by
    have hd := hm d List.mem_cons_self
    rcases reprChar_cases c with ⟨e, hc⟩ | ⟨t, e⟩
    · rw [List.flatMap_cons, e] at h
      simp only [List.append_assoc, List.cons_append, List.nil_append, List.cons.injEq] at h
      obtain ⟨h1, h2⟩ := body_split (l := l) (m := m) (fun x hx => hm x (List.mem_cons_of_mem _ hx)) (by simpa using h.2)
      exact ⟨by rw [h.1, h1], h2⟩
    · rw [List.flatMap_cons, e] at h
      simp only [List.append_assoc, List.cons_append, List.cons.injEq] at h
      exact absurd h.1.symm hd.2
/-- a plain sign -/
def PlC (c : Nat) : Prop := Unicode.isPrintable c = true ∧ c ≠ 39 ∧ c ≠ 92 ∧ c < 0x110000
theorem plainS_eq {x : Str} : plainS x = true ↔ ∀ c ∈ cpl x, PlC c := by
  unfold plainS PlC
  rw [List.all_eq_true]
  simp only [Bool.and_eq_true, bne_iff_ne, decide_eq_true_eq]
theorem plainS_iff {x : Str} (h : plainS x = true) : ∀ c ∈ cpl x, Unicode.isPrintable c = true ∧ c ≠ 39 ∧ c ≠ 92 := fun c hc => by
  obtain ⟨h1, h2, h3, _⟩ := plainS_eq.mp h c hc
  exact ⟨h1, h2, h3⟩
theorem plain_strOk {x : Str} (h : plainS x = true) : PyData.strOk x = true := strOk_iff.mpr fun c hc => (plainS_eq.mp h c hc).2.2.2
theorem plain_cut {z : Str} {lo hi : Option Int} (h : plainS z = true) : plainS (cutS z lo hi) = true := plainS_eq.mpr fun c hc => by
  rw [cpl, cutS_cps] at hc
  exact plainS_eq.mp h c (cut_mem hc)
theorem plain_add {a b : Str} (h : plainS a = true) (h2 : plainS b = true) : plainS (a ++ b) = true := plainS_eq.mpr fun c hc => by
  rw [cpl, append_cps] at hc
  exact (List.mem_append.mp hc).elim (plainS_eq.mp h c) (plainS_eq.mp h2 c)
theorem plain_rev {a : Str} (h : plainS a = true) : plainS (revS a) = true := plainS_eq.mpr fun c hc => by
  have hc : c ∈ a.cps.toList.reverse := hc
  exact plainS_eq.mp h c (List.mem_reverse.mp hc)
theorem plain_num (i : Int) : plainS (Str.ofString (toString i)) = true := plainS_eq.mpr fun c hc => by
  have dig : ∀ c, 48 ≤ c ∧ c ≤ 57 → PlC c := fun c h => by
    have : c = 48 ∨ c = 49 ∨ c = 50 ∨ c = 51 ∨ c = 52 ∨ c = 53 ∨ c = 54 ∨ c = 55 ∨ c = 56 ∨ c = 57 := by omega
    rcases this with rfl | rfl | rfl | rfl | rfl | rfl | rfl | rfl | rfl | rfl <;> exact ⟨by decide +kernel, by decide, by decide, by decide⟩
  cases i with
  | ofNat m =>
    have e1 : cpl (Str.ofString (toString (Int.ofNat m))) = dg m := dg_num m
    rw [e1] at hc
    exact dig c (dg_dig hc)
  | negSucc m =>
    rw [dg_neg] at hc
    rcases List.mem_cons.mp hc with rfl | hc
    · exact ⟨by decide +kernel, by decide, by decide, by decide⟩
    · exact dig c (dg_dig hc)
theorem quote_plain {x : Str} (h : plainS x = true) : reprQuote x = 39 := by
  unfold reprQuote
  have : x.cps.contains 39 = false := by
    rw [Bool.eq_false_iff]
    intro z
    have : 39 ∈ x.cps := by simpa using z
    exact (plainS_iff h 39 (by simpa using this)).2.1 rfl
  rw [this]; rfl
theorem repr_plain {x : Str} (h : plainS x = true) : cpl (reprText x) = 39 :: (cpl x ++ [39]) := by
  rw [repr_cps, quote_plain h, plain_body (plainS_iff h)]
theorem repr_split {x y : Str} {r s : List Nat} (h : plainS x = true) (e : cpl (reprText y) ++ r = cpl (reprText x) ++ s) : y = x ∧ r = s := by
  rw [repr_plain h, repr_cps] at e
  simp only [List.cons_append, List.append_assoc, List.cons.injEq, List.nil_append] at e
  obtain ⟨e1, e2⟩ := e
  rw [e1] at e2
  obtain ⟨h1, h2⟩ := body_split (fun c hc => ⟨(plainS_iff h c hc).2.1, (plainS_iff h c hc).2.2⟩) e2
  exact ⟨str_ext h1, h2⟩
/-! ### repr of data -/
def restT : List D → List Nat
  | [] => [41]
  | d :: ds => 44 :: 32 :: (cpl d.shown ++ restT ds)
def bodyT : List D → List Nat
  | [] => [41]
  | [d] => cpl d.shown ++ [44, 41]
  | d :: e :: ds => cpl d.shown ++ restT (e :: ds)
theorem cpl_add (a b : Str) : cpl (a ++ b) = cpl a ++ cpl b := append_cps
theorem join_rest : ∀ (d : D) (ds : List D), cpl (Str.join ", " (PyData.shownAll (d :: ds))) ++ [41] = cpl d.shown ++ restT ds
  | d, [] => by simp only [PyData.shownAll, Str.join, restT]
  | d, e :: ds => by
    have ih := join_rest e ds
    have e1 : PyData.shownAll (d :: e :: ds) = d.shown :: PyData.shownAll (e :: ds) := by simp only [PyData.shownAll]
    have e2 : Str.join ", " (d.shown :: PyData.shownAll (e :: ds)) = d.shown ++ ", " ++ Str.join ", " (PyData.shownAll (e :: ds)) := by
      simp only [PyData.shownAll]; rfl
    rw [e1, e2, cpl_add, cpl_add]
    have e3 : cpl (", " : Str) = [44, 32] := rfl
    rw [e3, List.append_assoc, ih, restT]
    simp
theorem shown_tuple (ds : List D) : cpl (PyData.shown (.tuple ds)) = 40 :: bodyT ds := by
  have e0 : PyData.shown (.tuple ds) = tupleText (PyData.shownAll ds) := by simp only [PyData.shown]
  rw [e0]
  unfold tupleText
  have e1 : cpl ("(" : Str) = [40] := rfl
  match ds with
  | [] => simp only [PyData.shownAll, bodyT]; rfl
  | [d] =>
    have e2 : PyData.shownAll [d] = [d.shown] := by simp only [PyData.shownAll]
    rw [e2]
    show cpl (("(" : Str) ++ d.shown ++ (",)" : Str)) = _
    rw [cpl_add, cpl_add, e1]; rfl
  | d :: e :: ds =>
    have hn : ((PyData.shownAll (d :: e :: ds)).length == 1) = false := by
      rw [beq_eq_false_iff_ne]
      simp [PyData.shownAll]
    rw [hn, if_neg (by simp), cpl_add, cpl_add, e1]
    show [40] ++ cpl (Str.join ", " (PyData.shownAll (d :: e :: ds))) ++ [41] = _
    rw [List.append_assoc, join_rest, bodyT]; rfl
theorem textFrom_cpl : ∀ (ts : List Str) (k : Nat) (acc : Str), ∃ l, cpl (textFrom k acc ts) = cpl acc ++ l
  | [], k, acc => ⟨[], by simp [textFrom]⟩
  | t :: ts, k, acc => by
    obtain ⟨l, e⟩ := textFrom_cpl ts (k + 1) (acc ++ (if k > 0 then ", " else "" : String) ++ t)
    refine ⟨cpl ((if k > 0 then ", " else "" : String) : Str) ++ (cpl t ++ l), ?_⟩
    show cpl (textFrom (k + 1) _ ts) = _
    rw [e, cpl_add, cpl_add]; simp
/-- the first sign of what repr makes -/
def headOk (d : D) (c : Nat) : Prop := match d with
  | .none => c = 78
  | .bool b => c = if b then 84 else 70
  | .int _ => c = 45 ∨ (48 ≤ c ∧ c ≤ 57)
  | .str _ => c = 39 ∨ c = 34
  | .list _ => c = 91
  | .tuple _ => c = 40
  | .dict _ => c = 123
theorem shown_head (d : D) : ∃ c l, cpl d.shown = c :: l ∧ headOk d c := by
  cases d with
  | none => exact ⟨78, _, by simp only [PyData.shown]; rfl, rfl⟩
  | bool b => cases b
              · exact ⟨70, _, by simp only [PyData.shown]; rfl, rfl⟩
              · exact ⟨84, _, by simp only [PyData.shown]; rfl, rfl⟩
  | int i =>
    cases i with
    | ofNat m =>
      have e : cpl (PyData.shown (.int (Int.ofNat m))) = dg m := by simp only [PyData.shown]; exact dg_num m
      rw [e]
      cases hd : dg m with
      | nil => exact absurd hd dg_ne
      | cons c l => exact ⟨c, l, rfl, .inr (dg_dig (m := m) (by rw [hd]; exact List.mem_cons_self))⟩
    | negSucc m => exact ⟨45, _, by simp only [PyData.shown]; exact dg_neg m, .inl rfl⟩
  | str x =>
    refine ⟨reprQuote x, _, by simp only [PyData.shown]; exact repr_cps x, ?_⟩
    show reprQuote x = 39 ∨ reprQuote x = 34
    unfold reprQuote
    split
    · exact .inr rfl
    · exact .inl rfl
  | list ds =>
    obtain ⟨l, e⟩ := textFrom_cpl (PyData.shownAll ds) 0 "["
    refine ⟨91, l ++ cpl ("]" : Str), ?_, rfl⟩
    simp only [PyData.shown]
    unfold listText
    rw [cpl_add, e]; rfl
  | tuple ds => exact ⟨40, _, shown_tuple ds, rfl⟩
  | dict kvs =>
    refine ⟨123, cpl (Str.join ", " (PyData.shownKv kvs)) ++ cpl ("}" : Str), ?_, rfl⟩
    simp only [PyData.shown]
    unfold dictText
    rw [cpl_add, cpl_add, List.append_assoc]; rfl
mutual
/-- what may be due, its texts plain -/
def plN : D → Bool
  | .none => true
  | .bool _ => true
  | .int _ => true
  | .str x => plainS x
  | .tuple ds => plNA ds
  | _ => false
def plNA : List D → Bool
  | [] => true
  | d :: ds => plN d && plNA ds
end
theorem kind_of {a e : D} {r s : List Nat} (h : cpl a.shown ++ r = cpl e.shown ++ s) : ∃ c, headOk a c ∧ headOk e c := by
  obtain ⟨c, l, e1, h1⟩ := shown_head a
  obtain ⟨c', l', e2, h2⟩ := shown_head e
  rw [e1, e2] at h
  simp only [List.cons_append, List.cons.injEq] at h
  exact ⟨c, h1, by rw [h.1]; exact h2⟩
theorem int_split {i j : Int} {r s : List Nat} (hr : stopL r) (hs : stopL s) (h : cpl (PyData.shown (.int i)) ++ r = cpl (PyData.shown (.int j)) ++ s) : i = j ∧ r = s := by
  simp only [PyData.shown] at h
  cases i with
  | ofNat m =>
    have e1 : cpl (Str.ofString (toString (Int.ofNat m))) = dg m := dg_num m
    rw [e1] at h
    cases j with
    | ofNat n =>
      have e2 : cpl (Str.ofString (toString (Int.ofNat n))) = dg n := dg_num n
      rw [e2] at h
      obtain ⟨h1, h2⟩ := dg_split (fun c => dg_dig) (fun c => dg_dig) hr hs h
      exact ⟨by rw [dg_inj h1], h2⟩
    | negSucc n =>
      rw [dg_neg] at h
      cases hd : dg m with
      | nil => exact absurd hd dg_ne
      | cons c l =>
        have := dg_dig (m := m) (c := c) (by rw [hd]; exact List.mem_cons_self)
        rw [hd] at h; simp at h; omega
  | negSucc m =>
    rw [dg_neg] at h
    cases j with
    | ofNat n =>
      have e2 : cpl (Str.ofString (toString (Int.ofNat n))) = dg n := dg_num n
      rw [e2] at h
      cases hd : dg n with
      | nil => exact absurd hd dg_ne
      | cons c l =>
        have := dg_dig (m := n) (c := c) (by rw [hd]; exact List.mem_cons_self)
        rw [hd] at h; simp at h; omega
    | negSucc n =>
      rw [dg_neg] at h
      simp only [List.cons_append, List.cons.injEq, true_and] at h
      obtain ⟨h1, h2⟩ := dg_split (fun c => dg_dig) (fun c => dg_dig) hr hs h
      have := dg_inj h1
      exact ⟨by congr 1; omega, h2⟩
theorem rest_stop (ds : List D) (r : List Nat) : stopL (restT ds ++ r) := by
  cases ds with
  | nil => exact .inr ⟨41, r, rfl, by omega⟩
  | cons d ds => exact .inr ⟨44, _, rfl, by omega⟩
mutual
/-- what is due is told apart from every other answer by its repr -/
theorem shown_split : ∀ (e : D), plN e = true → ∀ (a : D) (r s : List Nat), stopL r → stopL s → cpl a.shown ++ r = cpl e.shown ++ s → a = e ∧ r = s
  | .none, _, a, r, s, hr, hs, h => by
    obtain ⟨c, h1, h2⟩ := kind_of h
    cases h2
    cases a with
    | none => exact ⟨rfl, List.append_cancel_left h⟩
    | bool b => cases b <;> cases h1
    | int i => simp [headOk] at h1
    | str x => simp [headOk] at h1
    | _ => cases h1
  | .bool b, _, a, r, s, hr, hs, h => by
    obtain ⟨c, h1, h2⟩ := kind_of h
    cases a with
    | bool b' =>
      have : b' = b := by
        revert h1 h2
        cases b <;> cases b' <;> simp [headOk] <;> omega
      subst this
      exact ⟨rfl, List.append_cancel_left h⟩
    | _ => cases b <;> (simp [headOk] at h1 h2; omega)
  | .int j, _, a, r, s, hr, hs, h => by
    obtain ⟨c, h1, h2⟩ := kind_of h
    cases a with
    | int i =>
      obtain ⟨e1, e2⟩ := int_split hr hs h
      exact ⟨by rw [e1], e2⟩
    | bool b => cases b <;> (simp [headOk] at h1 h2; omega)
    | _ => simp [headOk] at h1 h2; omega
  | .str x, hp, a, r, s, hr, hs, h => by
    obtain ⟨c, h1, h2⟩ := kind_of h
    cases a with
    | str y =>
      simp only [PyData.shown] at h
      obtain ⟨e1, e2⟩ := repr_split (by simpa [plN] using hp) h
      exact ⟨by rw [e1], e2⟩
    | bool b => cases b <;> (simp [headOk] at h1 h2; omega)
    | _ => simp [headOk] at h1 h2; omega
  | .tuple es, hp, a, r, s, hr, hs, h => by
    obtain ⟨c, h1, h2⟩ := kind_of h
    cases a with
    | tuple as =>
      rw [shown_tuple, shown_tuple] at h
      simp only [List.cons_append, List.cons.injEq, true_and] at h
      obtain ⟨e1, e2⟩ := body_tup es (by simpa [plN] using hp) as r s h
      exact ⟨by rw [e1], e2⟩
    | bool b => cases b <;> (simp [headOk] at h1 h2; omega)
    | _ => simp [headOk] at h1 h2; omega
  | .list _, hp, _, _, _, _, _, _ => by simp [plN] at hp
  | .dict _, hp, _, _, _, _, _, _ => by simp [plN] at hp
theorem rest_split : ∀ (es : List D), plNA es = true → ∀ (as : List D) (r s : List Nat), restT as ++ r = restT es ++ s → as = es ∧ r = s
  | [], _, as, r, s, h => by
    cases as with
    | nil => exact ⟨rfl, by simpa [restT] using h⟩
    | cons a as => simp [restT] at h
  | e :: es, hp, as, r, s, h => by
    have hp : plN e = true ∧ plNA es = true := by simpa [plNA] using hp
    cases as with
    | nil => simp [restT] at h
    | cons a as =>
      simp only [restT, List.cons_append, List.cons.injEq, true_and, List.append_assoc] at h
      obtain ⟨h1, h2⟩ := shown_split e hp.1 a _ _ (rest_stop _ _) (rest_stop _ _) h
      obtain ⟨h3, h4⟩ := rest_split es hp.2 as r s h2
      exact ⟨by rw [h1, h3], h4⟩
theorem body_tup : ∀ (es : List D), plNA es = true → ∀ (as : List D) (r s : List Nat), bodyT as ++ r = bodyT es ++ s → as = es ∧ r = s
  | [], _, as, r, s, h => by
    match as, h with
    | [], h => exact ⟨rfl, by simpa [bodyT] using h⟩
    | [a], h =>
      obtain ⟨c, l, e1, h1⟩ := shown_head a
      simp only [bodyT, e1, List.cons_append, List.cons.injEq] at h
      obtain ⟨rfl, _⟩ := h
      cases a with
      | bool b => cases b <;> simp [headOk] at h1
      | _ => simp [headOk] at h1
    | a :: b :: as, h =>
      obtain ⟨c, l, e1, h1⟩ := shown_head a
      simp only [bodyT, e1, List.cons_append, List.cons.injEq] at h
      obtain ⟨rfl, _⟩ := h
      cases a with
      | bool b => cases b <;> simp [headOk] at h1
      | _ => simp [headOk] at h1
  | e :: es, hp, as, r, s, h => by
    have hp : plN e = true ∧ plNA es = true := by simpa [plNA] using hp
    have bt : ∀ (d : D) (ds : List D) (t : List Nat), ∃ u, bodyT (d :: ds) ++ t = cpl d.shown ++ u ∧ stopL u ∧ ((ds = [] ∧ u = 44 :: 41 :: t) ∨ (ds ≠ [] ∧ u = restT ds ++ t)) := fun d ds t => by
      cases ds with
      | nil => exact ⟨44 :: 41 :: t, by simp [bodyT], .inr ⟨44, _, rfl, by omega⟩, .inl ⟨rfl, rfl⟩⟩
      | cons b ds => exact ⟨restT (b :: ds) ++ t, by simp only [bodyT, List.append_assoc], rest_stop _ _, .inr ⟨by simp, rfl⟩⟩
    cases as with
    | nil =>
      obtain ⟨c, l, e1, h1⟩ := shown_head e
      obtain ⟨u, e2, _, _⟩ := bt e es s
      rw [e2, e1] at h
      simp only [bodyT, List.cons_append, List.cons.injEq] at h
      obtain ⟨rfl, _⟩ := h
      cases e with
      | bool b => cases b <;> simp [headOk] at h1
      | _ => simp [headOk] at h1
    | cons a as =>
      obtain ⟨u, e1, s1, k1⟩ := bt a as r
      obtain ⟨v, e2, s2, k2⟩ := bt e es s
      rw [e1, e2] at h
      obtain ⟨h1, h2⟩ := shown_split e hp.1 a _ _ s1 s2 h
      rcases k1 with ⟨n1, q1⟩ | ⟨n1, q1⟩ <;> rcases k2 with ⟨n2, q2⟩ | ⟨n2, q2⟩
      · rw [q1, q2] at h2
        exact ⟨by rw [h1, n1, n2], by simpa using h2⟩
      · rw [q1, q2] at h2
        cases es with
        | nil => exact absurd rfl n2
        | cons b es => simp [restT] at h2
      · rw [q1, q2] at h2
        cases as with
        | nil => exact absurd rfl n1
        | cons b as => simp [restT] at h2
      · rw [q1, q2] at h2
        obtain ⟨h3, h4⟩ := rest_split es hp.2 as r s h2
        exact ⟨by rw [h1, h3], h4⟩
end
theorem shown_inj {a e : D} (hp : plN e = true) : a.shown = e.shown ↔ a = e :=
  ⟨fun h => (shown_split e hp a [] [] (.inl rfl) (.inl rfl) (by rw [h])).1, fun h => by rw [h]⟩
set_option Elab.async false
set_option linter.all false
set_option maxRecDepth 100000
open PySem L2

/-! ### data by weight: how long their repr may be -/
mutual
/-- numbers under 2 ^ b, plain texts, no dict -/
def okq (b : Nat) : D → Bool
  | .none => true
  | .bool _ => true
  | .int i => decide (i.natAbs < 2 ^ b)
  | .str x => plainS x
  | .list ds => okqA b ds
  | .tuple ds => okqA b ds
  | .dict _ => false
def okqA (b : Nat) : List D → Bool
  | [] => true
  | d :: ds => okq b d && okqA b ds
end
mutual
def wt (c : Nat) : D → Nat
  | .none => 6
  | .bool _ => 6
  | .int _ => c
  | .str x => x.length + 4
  | .list ds => wts c ds + 4
  | .tuple ds => wts c ds + 4
  | .dict _ => 4
def wts (c : Nat) : List D → Nat
  | [] => 0
  | d :: ds => wt c d + 2 + wts c ds
end
section
variable {b c n m k : Nat} {d : D} {ds es L L' : List D} {x : Str} {i : Int}
theorem okqA_iff : ∀ {ds : List D}, okqA b ds = true ↔ ∀ d ∈ ds, okq b d = true
  | [] => by simp [okqA]
  | d :: ds => by simp [okqA, okqA_iff (ds := ds)]
@[simp] theorem wts_nil : wts c [] = 0 := by simp only [wts]
@[simp] theorem wts_cons : wts c (d :: ds) = wt c d + 2 + wts c ds := by simp only [wts]
@[simp] theorem wts_app : ∀ {L L' : List D}, wts c (L ++ L') = wts c L + wts c L'
  | [], L' => by simp
  | d :: L, L' => by rw [List.cons_append, wts_cons, wts_cons, wts_app (L := L)]; omega
theorem wts_rev : ∀ {L : List D}, wts c L.reverse = wts c L
  | [] => rfl
  | d :: L => by rw [List.reverse_cons, wts_app, wts_rev (L := L)]; simp; omega
theorem wts_sub : ∀ {L L' : List D}, List.Sublist L L' → wts c L ≤ wts c L'
  | _, _, .slnil => Nat.le_refl _
  | _, _, .cons a h => by rw [wts_cons]; have := wts_sub h; omega
  | _, _, .cons_cons a h => by rw [wts_cons, wts_cons]; have := wts_sub h; omega
theorem wts_take : wts c (ds.take k) ≤ wts c ds := wts_sub (List.take_sublist _ _)
theorem wts_drop : wts c (ds.drop k) ≤ wts c ds := wts_sub (List.drop_sublist _ _)
theorem wts_cut {lo hi : Option Int} : wts c (cutL ds lo hi) ≤ wts c ds := by
  unfold cutL
  exact Nat.le_trans wts_take wts_drop
/-- what is left when the item at k goes -/
theorem wts_but : ∀ {ds : List D} {k : Nat} {d : D}, ds[k]? = some d → wts c (ds.take k) + (wt c d + 2) + wts c (ds.drop (k + 1)) = wts c ds
  | [], _, _, h => by simp at h
  | e :: ds, 0, d, h => by
    have h : e = d := by simpa using h
    subst h; simp
  | e :: ds, k + 1, d, h => by
    have := wts_but (ds := ds) (k := k) (d := d) (by simpa using h)
    simp only [List.take_succ_cons, List.drop_succ_cons, wts_cons]; omega
theorem wts_mem : ∀ {ds : List D}, d ∈ ds → wt c d + 2 ≤ wts c ds
  | e :: ds, h => by
    rw [wts_cons]
    rcases List.mem_cons.mp h with rfl | h
    · omega
    · have := wts_mem h; omega
theorem wts_len : ∀ {ds : List D}, 2 * ds.length ≤ wts c ds
  | [] => by simp
  | d :: ds => by rw [wts_cons, List.length_cons]; have := wts_len (ds := ds); omega
/-- numbers under 2 ^ b, plain texts, no dict; n deep, of weight at most w -/
structure Tq (b c w n : Nat) (d : D) : Prop where
  ok : okq b d = true
  dp : d.depth ≤ n
  wt : wt c d ≤ w
structure Bq (b c w n : Nat) (L : List D) : Prop where
  ok : ∀ d ∈ L, okq b d = true
  dp : ∀ d ∈ L, d.depth ≤ n
  wt : wts c L ≤ w
variable {w w' : Nat}
theorem okq_mono {b b' : Nat} (h : b ≤ b') : ∀ {d : D}, okq b d = true → okq b' d = true := by
  have hp : 2 ^ b ≤ 2 ^ b' := Nat.pow_le_pow_right (by omega) h
  intro d
  suffices h : ∀ (s : Nat) (d : D), sizeOf d ≤ s → okq b d = true → okq b' d = true from h _ d (Nat.le_refl _)
  intro s
  induction s with
  | zero => intro d hd; cases d <;> simp at hd <;> omega
  | succ s ih =>
    intro d hd hk
    have go : ∀ ds : List D, (∀ d ∈ ds, sizeOf d ≤ s) → okqA b ds = true → okqA b' ds = true := fun ds h1 h2 => okqA_iff.mpr fun d hd => ih d (h1 d hd) (okqA_iff.mp h2 d hd)
    cases d with
    | int i => simp only [okq, decide_eq_true_eq] at hk ⊢; omega
    | list ds => simp only [okq] at hk ⊢; exact go ds (fun d hd' => by have := List.sizeOf_lt_of_mem hd'; simp at hd; omega) hk
    | tuple ds => simp only [okq] at hk ⊢; exact go ds (fun d hd' => by have := List.sizeOf_lt_of_mem hd'; simp at hd; omega) hk
    | dict _ => simp only [okq] at hk; cases hk
    | str x => simp only [okq] at hk ⊢; exact hk
    | _ => simp only [okq]
theorem Tq.mono {b' n' : Nat} (h : Tq b c w n d) (hb : b ≤ b') (hn : n ≤ n') (hw : w ≤ w') : Tq b' c w' n' d := ⟨okq_mono hb h.ok, Nat.le_trans h.dp hn, Nat.le_trans h.wt hw⟩
theorem Bq.mono {b' n' : Nat} (h : Bq b c w n L) (hb : b ≤ b') (hn : n ≤ n') (hw : w ≤ w') : Bq b' c w' n' L := ⟨fun d hd => okq_mono hb (h.ok d hd), fun d hd => Nat.le_trans (h.dp d hd) hn, Nat.le_trans h.wt hw⟩
theorem Bq.mem (h : Bq b c w n L) (hd : d ∈ L) : Tq b c w n d := ⟨h.ok d hd, h.dp d hd, by have := wts_mem (c := c) hd; have := h.wt; omega⟩
theorem Bq.mem' (h : Bq b c w n L) (hd : d ∈ L) : Tq b c (Z.wt c d) n d := ⟨h.ok d hd, h.dp d hd, Nat.le_refl _⟩
theorem Bq.len (h : Bq b c w n L) : 2 * L.length ≤ w := Nat.le_trans wts_len h.wt
theorem bq_sub (h : Bq b c w n L) (hs : ∀ d ∈ L', d ∈ L) (hw : Z.wts c L' ≤ w') : Bq b c w' n L' := ⟨fun d hd => h.ok d (hs d hd), fun d hd => h.dp d (hs d hd), hw⟩
theorem bq_take (h : Bq b c w n L) : Bq b c w n (L.take k) := bq_sub h (fun _ q => List.mem_of_mem_take q) (Nat.le_trans wts_take h.wt)
theorem bq_drop (h : Bq b c w n L) : Bq b c w n (L.drop k) := bq_sub h (fun _ q => List.mem_of_mem_drop q) (Nat.le_trans wts_drop h.wt)
theorem bq_cut {lo hi : Option Int} (h : Bq b c w n L) : Bq b c w n (cutL L lo hi) := bq_sub h (fun _ q => cut_mem q) (Nat.le_trans wts_cut h.wt)
theorem bq_rev (h : Bq b c w n L) : Bq b c w n L.reverse := bq_sub h (fun _ q => List.mem_reverse.mp q) (by rw [wts_rev]; exact h.wt)
theorem bq_nil : Bq b c 0 n [] := ⟨fun _ h => absurd h List.not_mem_nil, fun _ h => absurd h List.not_mem_nil, by simp⟩
theorem bq_cons (h : Tq b c m n d) (q : Bq b c w n L) : Bq b c (m + 2 + w) n (d :: L) := ⟨List.forall_mem_cons.mpr ⟨h.ok, q.ok⟩, List.forall_mem_cons.mpr ⟨h.dp, q.dp⟩, by rw [wts_cons]; have := h.wt; have := q.wt; omega⟩
theorem bq_app (h : Bq b c w n L) (q : Bq b c w' n L') : Bq b c (w + w') n (L ++ L') := ⟨fun d hd => (List.mem_append.mp hd).elim (h.ok d) (q.ok d), fun d hd => (List.mem_append.mp hd).elim (h.dp d) (q.dp d), by rw [wts_app]; have := h.wt; have := q.wt; omega⟩
theorem bq_tup (h : Bq b c w n L) (hw : w + 4 ≤ w') : Tq b c w' (n + 1) (.tuple L) :=
  ⟨by simp only [okq]; exact okqA_iff.mpr h.ok, by simp only [PyData.depth]; have := depthAll_le.mpr h.dp; omega, by simp only [Z.wt]; have := h.wt; omega⟩
theorem bq_lst (h : Bq b c w n L) (hw : w + 4 ≤ w') : Tq b c w' (n + 1) (.list L) :=
  ⟨by simp only [okq]; exact okqA_iff.mpr h.ok, by simp only [PyData.depth]; have := depthAll_le.mpr h.dp; omega, by simp only [Z.wt]; have := h.wt; omega⟩
theorem tq_tup (h : Tq b c w n (.tuple L)) : ∃ m u, n = m + 1 ∧ w = u + 4 ∧ Bq b c u m L := by
  obtain ⟨h1, h2, h3⟩ := h
  simp only [okq] at h1
  simp only [PyData.depth] at h2
  simp only [Z.wt] at h3
  refine ⟨n - 1, w - 4, by omega, by omega, okqA_iff.mp h1, depthAll_le.mp (by omega), by omega⟩
theorem tq_lst (h : Tq b c w n (.list L)) : ∃ m u, n = m + 1 ∧ w = u + 4 ∧ Bq b c u m L := by
  obtain ⟨h1, h2, h3⟩ := h
  simp only [okq] at h1
  simp only [PyData.depth] at h2
  simp only [Z.wt] at h3
  refine ⟨n - 1, w - 4, by omega, by omega, okqA_iff.mp h1, depthAll_le.mp (by omega), by omega⟩
theorem tq_dict {kvs : List (D × D)} : ¬ Tq b c w n (.dict kvs) := fun h => by have := h.ok; simp only [okq] at this; cases this
@[simp] theorem tq_none : Tq b c w n .none ↔ 6 ≤ w := ⟨fun h => by have := h.wt; simpa only [Z.wt] using this, fun h => ⟨by simp only [okq], by simp [PyData.depth], by simpa only [Z.wt] using h⟩⟩
@[simp] theorem tq_bool {x : Bool} : Tq b c w n (.bool x) ↔ 6 ≤ w := ⟨fun h => by have := h.wt; simpa only [Z.wt] using this, fun h => ⟨by simp only [okq], by simp [PyData.depth], by simpa only [Z.wt] using h⟩⟩
@[simp] theorem tq_int : Tq b c w n (.int i) ↔ i.natAbs < 2 ^ b ∧ c ≤ w := ⟨fun h => ⟨by have := h.ok; simpa only [okq, decide_eq_true_eq] using this, by have := h.wt; simpa only [Z.wt] using this⟩, fun h => ⟨by simpa only [okq, decide_eq_true_eq] using h.1, by simp [PyData.depth], by simpa only [Z.wt] using h.2⟩⟩
@[simp] theorem tq_str : Tq b c w n (.str x) ↔ plainS x = true ∧ x.length + 4 ≤ w := ⟨fun h => ⟨by have := h.ok; simpa only [okq] using this, by have := h.wt; simpa only [Z.wt] using this⟩, fun h => ⟨by simpa only [okq] using h.1, by simp [PyData.depth], by simpa only [Z.wt] using h.2⟩⟩
/-- small data, too -/
theorem Tq.tm {s : Nat} (hb : b ≤ s) : ∀ {n w : Nat} {d : D}, Tq b c w n d → w ≤ s → Tm s n d := by
  have hp : 2 ^ b ≤ 2 ^ s := Nat.pow_le_pow_right (by omega) hb
  intro n
  induction n with
  | zero =>
    intro w d h hw
    cases d with
    | none => exact tm_none
    | bool _ => exact tm_bool
    | int i => exact tm_int.mpr (Nat.lt_of_lt_of_le (tq_int.mp h).1 hp)
    | str x => exact tm_str.mpr ⟨plain_strOk (tq_str.mp h).1, by have := (tq_str.mp h).2; omega⟩
    | list ds => obtain ⟨m, u, e, _⟩ := tq_lst h; omega
    | tuple ds => obtain ⟨m, u, e, _⟩ := tq_tup h; omega
    | dict _ => exact (tq_dict h).elim
  | succ n ih =>
    intro w d h hw
    cases d with
    | none => exact tm_none
    | bool _ => exact tm_bool
    | int i => exact tm_int.mpr (Nat.lt_of_lt_of_le (tq_int.mp h).1 hp)
    | str x => exact tm_str.mpr ⟨plain_strOk (tq_str.mp h).1, by have := (tq_str.mp h).2; omega⟩
    | list ds =>
      obtain ⟨m, u, e, e2, q⟩ := tq_lst h
      cases e
      exact ⟨by have := q.len; omega, fun d hd => ih (q.mem hd) (by omega)⟩
    | tuple ds =>
      obtain ⟨m, u, e, e2, q⟩ := tq_tup h
      cases e
      exact ⟨by have := q.len; omega, fun d hd => ih (q.mem hd) (by omega)⟩
    | dict _ => exact (tq_dict h).elim
end
set_option Elab.async false
set_option linter.all false
set_option maxRecDepth 100000
open PySem L2

theorem cpl_len (x : Str) : (cpl x).length = x.length := Array.length_toList
theorem num_len {i : Int} {b : Nat} (h : i.natAbs < 2 ^ b) : (Str.ofString (toString i)).length ≤ b + 2 := by
  have h2 : i.natAbs < 2 ^ (b + 1) := Nat.lt_of_lt_of_le h (Nat.pow_le_pow_right (by omega) (by omega))
  rw [← cpl_len]
  cases i with
  | ofNat m =>
    have e1 : cpl (Str.ofString (toString (Int.ofNat m))) = dg m := dg_num m
    have := nat_repr_length_le (n := m) (k := b + 1) (by omega) h2
    rw [e1]
    unfold dg
    rw [List.length_map, ← Nat.toList_repr, String.length_toList]
    omega
  | negSucc m =>
    have := nat_repr_length_le (n := m + 1) (k := b + 1) (by omega) h2
    rw [dg_neg]
    unfold dg
    rw [List.length_cons, List.length_map, ← Nat.toList_repr, String.length_toList]
    omega
section
variable {b c : Nat}
theorem textFrom_len' {f : Str → Nat} : ∀ (ts : List Str) (k : Nat) (acc : Str), (textFrom k acc ts).length ≤ acc.length + (ts.map fun t => t.length + 2).sum
  | [], k, acc => by simp [textFrom]
  | t :: ts, k, acc => by
    have := textFrom_len' (f := f) ts (k + 1) (acc ++ (if k > 0 then ", " else "" : String) ++ t)
    have e : (acc ++ ((if k > 0 then ", " else "" : String) : Str) ++ t).length ≤ acc.length + 2 + t.length := by
      rw [len_add, len_add]
      split
      · have : (Str.ofString ", ").length = 2 := by decide +kernel
        omega
      · have : (Str.ofString "").length = 0 := by decide +kernel
        omega
    show (textFrom (k + 1) _ ts).length ≤ _
    simp only [List.map_cons, List.sum_cons]
    omega
mutual
theorem shown_len (hb : b + 2 ≤ c) : ∀ (d : D), okq b d = true → d.shown.length ≤ wt c d
  | .none, _ => by simp only [PyData.shown, wt]; decide +kernel
  | .bool x, _ => by simp only [PyData.shown, wt]; cases x <;> decide +kernel
  | .int i, h => by
    simp only [okq, decide_eq_true_eq] at h
    simp only [PyData.shown, wt]
    have := num_len h
    omega
  | .str x, h => by
    simp only [okq] at h
    have e : (cpl (reprText x)).length = x.length + 2 := by
      rw [repr_plain h, List.length_cons, List.length_append, cpl_len]; rfl
    simp only [PyData.shown, wt]
    rw [cpl_len] at e
    omega
  | .tuple ds, h => by
    simp only [okq] at h
    have e : (cpl (PyData.shown (.tuple ds))).length = 1 + (bodyT ds).length := by rw [shown_tuple]; simp; omega
    rw [cpl_len] at e
    have := body_len hb ds h
    simp only [wt]
    omega
  | .list ds, h => by
    simp only [okq] at h
    have e0 : PyData.shown (.list ds) = listText (PyData.shownAll ds) := by simp only [PyData.shown]
    have h1 := textFrom_len' (f := fun _ => 0) (PyData.shownAll ds) 0 "["
    have h2 := all_len hb ds h
    have e1 : (Str.ofString "[").length = 1 := by decide +kernel
    have e2 : (Str.ofString "]").length = 1 := by decide +kernel
    rw [e0]
    unfold listText
    rw [len_add]
    simp only [wt]
    omega
  | .dict _, h => by simp [okq] at h
theorem all_len (hb : b + 2 ≤ c) : ∀ (ds : List D), okqA b ds = true → ((PyData.shownAll ds).map fun t => t.length + 2).sum ≤ wts c ds
  | [], _ => by simp [PyData.shownAll]
  | d :: ds, h => by
    simp only [okqA, Bool.and_eq_true] at h
    have h1 := shown_len hb d h.1
    have h2 := all_len hb ds h.2
    simp only [PyData.shownAll, List.map_cons, List.sum_cons, wts_cons]
    omega
theorem rest_len (hb : b + 2 ≤ c) : ∀ (ds : List D), okqA b ds = true → (restT ds).length ≤ wts c ds + 1
  | [], _ => by simp [restT]
  | d :: ds, h => by
    simp only [okqA, Bool.and_eq_true] at h
    have h1 := shown_len hb d h.1
    have h2 := rest_len hb ds h.2
    simp only [restT, List.length_cons, List.length_append, cpl_len, wts_cons]
    omega
theorem body_len (hb : b + 2 ≤ c) : ∀ (ds : List D), okqA b ds = true → (bodyT ds).length ≤ wts c ds + 2
  | [], _ => by simp [bodyT]
  | [d], h => by
    simp only [okqA, Bool.and_eq_true] at h
    have h1 := shown_len hb d h.1
    simp only [bodyT, List.length_append, cpl_len, wts_cons, List.length_cons, List.length_nil]
    omega
  | d :: e :: ds, h => by
    have h' : okq b d = true ∧ okqA b (e :: ds) = true := by simpa [okqA] using h
    have h1 := shown_len hb d h'.1
    have h2 := rest_len hb (e :: ds) h'.2
    simp only [bodyT, List.length_append, cpl_len]
    rw [wts_cons]
    omega
end
mutual
theorem showable_ok (hb : b ≤ 1900) : ∀ (d : D), okq b d = true → d.showable = true ∧ d.hasDict = false
  | .none, _ => by simp [PyData.showable, PyData.hasDict]
  | .bool x, _ => by simp [PyData.showable, PyData.hasDict]
  | .int i, h => by
    simp only [okq, decide_eq_true_eq] at h
    simp only [PyData.showable, PyData.hasDict, decide_eq_true_eq, and_true]
    by_cases h0 : i.natAbs = 0
    · rw [h0]; decide
    · have : i.natAbs.log2 < b := (Nat.log2_lt h0).mpr h
      omega
  | .str x, _ => by simp [PyData.showable, PyData.hasDict]
  | .tuple ds, h => by
    simp only [okq] at h
    have := showable_all hb ds h
    simpa [PyData.showable, PyData.hasDict] using this
  | .list ds, h => by
    simp only [okq] at h
    have := showable_all hb ds h
    simpa [PyData.showable, PyData.hasDict] using this
  | .dict _, h => by simp [okq] at h
theorem showable_all (hb : b ≤ 1900) : ∀ (ds : List D), okqA b ds = true → PyData.showableAll ds = true ∧ PyData.hasDictAll ds = false
  | [], _ => by simp [PyData.showableAll, PyData.hasDictAll]
  | d :: ds, h => by
    simp only [okqA, Bool.and_eq_true] at h
    have h1 := showable_ok hb d h.1
    have h2 := showable_all hb ds h.2
    simp [PyData.showableAll, PyData.hasDictAll, h1, h2]
end
end
set_option Elab.async false
set_option linter.all false
set_option maxRecDepth 100000
open PySem L2

/-! ### direct style: rules for simp -/
section
variable {α β γ : Type} {a b d e : D} {ds es : List D} {i j : Int} {x y : Str} {p q : Bool}
@[simp] theorem liftO_some {a : α} : liftO (some a) = .ok a := Eq.trans rfl rfl
@[simp] theorem liftO_none : liftO (none : Option α) = .err := Eq.trans rfl rfl
@[simp] theorem liftS_sh : liftS (some (.sh d)) = .ok d := Eq.trans rfl rfl
@[simp] theorem liftS_ow : liftS (some (.ow d)) = .ok d := Eq.trans rfl rfl
@[simp] theorem liftS_none : liftS none = .err := Eq.trans rfl rfl
@[simp] theorem noX_err : (M.err : M α).noX = .err := Eq.trans rfl rfl
@[simp] theorem noX_exc {c : Nat} : (M.exc c : M α).noX = .err := Eq.trans rfl rfl
@[simp] theorem noX_bind {m : M α} {f : α → M β} : (m.bind f).noX = m.noX.bind fun a => (f a).noX := by cases m <;> rfl
@[simp] theorem noX_noX {m : M α} : m.noX.noX = m.noX := by cases m <;> rfl
@[simp] theorem noX_ite {c : Prop} [Decidable c] {m n : M α} : (if c then m else n).noX = if c then m.noX else n.noX := by split <;> rfl
@[simp] theorem noX_liftO {o : Option α} : (liftO o).noX = liftO o := by cases o <;> rfl
@[simp] theorem noX_liftS {o : Option Sl} : (liftS o).noX = liftS o := by
  cases o with
  | none => rfl
  | some s => cases s <;> rfl
theorem bind_ite {c : Prop} [Decidable c] {m n : M α} {f : α → M β} : (if c then m else n).bind f = if c then m.bind f else n.bind f := by split <;> rfl
@[simp] theorem ite_okB {c : Bool} {p q : Bool} : (if c = true then M.ok p else M.ok q) = M.ok (if c = true then p else q) := by split <;> rfl
@[simp] theorem ite_okD {c : Prop} [Decidable c] {p q : D} : (if c then M.ok p else M.ok q) = M.ok (if c then p else q) := by split <;> rfl
@[simp] theorem intM_int : intM (.int i) = .ok i := Eq.trans rfl rfl
@[simp] theorem isLst_list : isLst (.list ds) = .ok () := Eq.trans rfl rfl
@[simp] theorem isInt_int : isInt (.int i) = .ok () := Eq.trans rfl rfl
@[simp] theorem isStr_str : isStr (.str x) = .ok () := Eq.trans rfl rfl
@[simp] theorem tup2_tuple : tup2 (.tuple [a, b]) = .ok (a, b) := Eq.trans rfl rfl
@[simp] theorem tup3_tuple : tup3 (.tuple [a, b, d]) = .ok (a, b, d) := Eq.trans rfl rfl
@[simp] theorem two_two : two [a, b] = .ok (a, b) := Eq.trans rfl rfl
@[simp] theorem itM_list : itM (.list ds) = .ok ds := Eq.trans rfl rfl
@[simp] theorem itM_tuple : itM (.tuple ds) = .ok ds := Eq.trans rfl rfl
@[simp] theorem itM_str : itM (.str x) = if x.length ≤ sizeLine then .ok (signs x) else .err := by
  show liftO (if x.length ≤ sizeLine then some (signs x) else none) = _
  split <;> rfl
@[simp] theorem rng1_int : rng1 (.int i) = if rngOk 0 i = true then .ok (rngD 0 i) else .err := Eq.trans rfl rfl
@[simp] theorem rng2_int : rng2 (.int i) (.int j) = if rngOk i j = true then .ok (rngD i j) else .err := Eq.trans rfl rfl
@[simp] theorem orRet_inl {κ : α → M β} {f : γ → β} {z : α} : orRet κ f (.inl z) = κ z := Eq.trans rfl rfl
@[simp] theorem orRet_inr {κ : α → M β} {f : γ → β} {z : γ} : orRet κ f (.inr z) = .ok (f z) := Eq.trans rfl rfl
@[simp] theorem forM_nil {f : α → D → M (St1 α β)} {z : α} : forM f [] z = .ok (.inl z) := Eq.trans rfl rfl
theorem forM_cons {f : α → D → M (St1 α β)} {z : α} : forM f (d :: ds) z = (f z d).bind fun r => match r with
    | .nx b' => forM f ds b'
    | .br b' => .ok (.inl b')
    | .rt w => .ok (.inr w) := rfl
@[simp] theorem foldM_nil {f : α → D → M α} {z : α} : foldM f [] z = .ok z := Eq.trans rfl rfl
theorem foldM_cons {f : α → D → M α} {z : α} : foldM f (d :: ds) z = (f z d).bind fun b' => foldM f ds b' := rfl
@[simp] theorem lcE_nil {f : D → M D} : lcE f [] = .ok [] := Eq.trans rfl rfl
theorem lcE_cons {f : D → M D} : lcE f (d :: ds) = (f d).bind fun x => (lcE f ds).bind fun xs => .ok (x :: xs) := rfl
@[simp] theorem lcF_nil {f : D → M (Option D)} : lcF f [] = .ok [] := Eq.trans rfl rfl
theorem lcF_cons {f : D → M (Option D)} : lcF f (d :: ds) = (f d).bind fun x => (lcF f ds).bind fun xs => .ok (x.toList ++ xs) := rfl
/-! operations -/
@[simp] theorem ixD_list : ixD (.list ds) (.int i) = atI ds i := Eq.trans rfl rfl
@[simp] theorem ixD_tuple : ixD (.tuple ds) (.int i) = atI ds i := Eq.trans rfl rfl
theorem atI_at (h : 0 ≤ i) : atI ds i = ds[i.toNat]? := zatI_nat i h
@[simp] theorem atI_0 : atI ds 0 = ds[0]? := zatI_nat 0 (by omega)
@[simp] theorem atI_1 : atI ds 1 = ds[1]? := zatI_nat 1 (by omega)
@[simp] theorem atI_2 : atI ds 2 = ds[2]? := zatI_nat 2 (by omega)
@[simp] theorem atI_3 : atI ds 3 = ds[3]? := zatI_nat 3 (by omega)
theorem atI_neg1 : atI ds (-1) = ds.getLast? := by
  cases ds with
  | nil => rfl
  | cons a l =>
    unfold atI ixN
    rw [if_neg (by omega), if_pos (by rw [List.length_cons]; omega), List.getLast?_eq_getElem?]
    show (a :: l)[(-1 + ((a :: l).length : Int)).toNat]? = _
    congr 1; rw [List.length_cons]; omega
@[simp] theorem eqB_eq : eqB a b = if (cmpOk a && cmpOk b) = true then some (PyData.eqv a b) else none := Eq.trans rfl rfl
@[simp] theorem neB_eq : neB a b = if (cmpOk a && cmpOk b) = true then some (!PyData.eqv a b) else none := Eq.trans rfl rfl
@[simp] theorem cmpI : cmpOk (.int i) = true := cmpOk_int
@[simp] theorem cmpB : cmpOk (.bool p) = true := cmpOk_bool
@[simp] theorem cmpN : cmpOk .none = true := cmpOk_none
@[simp] theorem cmpS : cmpOk (.str x) = PyData.strOk x := cmpOk_str
@[simp] theorem isNone_none : isNoneB d .none = some (nonB d) := by cases d <;> rfl
@[simp] theorem noNone_none : noNoneB d .none = some (!nonB d) := by cases d <;> rfl
@[simp] theorem isBB_bool : isBB (.bool p) (.bool q) = some (decide (p = q)) := Eq.trans rfl rfl
@[simp] theorem noBB_bool : noBB (.bool p) (.bool q) = some (!decide (p = q)) := Eq.trans rfl rfl
@[simp] theorem inB_list : inB d (.list ds) = if (cmpOk d && cmpOk (.list ds)) = true then some (ds.any fun z => PyData.eqv z d) else none := Eq.trans rfl rfl
@[simp] theorem inB_tuple : inB d (.tuple ds) = if (cmpOk d && cmpOk (.tuple ds)) = true then some (ds.any fun z => PyData.eqv z d) else none := Eq.trans rfl rfl
@[simp] theorem niB_eq : niB d e = (inB d e).map not := Eq.trans rfl rfl
@[simp] theorem opBD_eq {f : D → D → Option Bool} : opBD f a b = (f a b).map .bool := Eq.trans rfl rfl
@[simp] theorem addS_int : addS (.int i) (.int j) = some (.sh (.int (i + j))) := Eq.trans rfl rfl
@[simp] theorem addS_str : addS (.str x) (.str y) = if x.length + y.length ≤ sizeLine then some (.sh (.str (x ++ y))) else none := Eq.trans rfl rfl
@[simp] theorem addS_tuple : addS (.tuple ds) (.tuple es) = if ds.length + es.length ≤ sizeLine then some (.sh (.tuple (ds ++ es))) else none := Eq.trans rfl rfl
@[simp] theorem addS_list : addS (.list ds) (.list es) = if ds.length + es.length ≤ sizeLine then some (.ow (.list (ds ++ es))) else none := Eq.trans rfl rfl
@[simp] theorem iiD_int {c : Int → Int → Bool} {f : Int → Int → Int} : iiD c f (.int i) (.int j) = if c i j = true then some (.int (f i j)) else none := Eq.trans rfl rfl
@[simp] theorem iiB_int {f : Int → Int → Bool} : iiB f (.int i) (.int j) = some (f i j) := Eq.trans rfl rfl
@[simp] theorem cMulR (h : -18446744073709551616 < j) (h2 : j < 18446744073709551616) : cMul i j = true := by
  unfold cMul
  rw [Bool.or_eq_true]
  exact .inr (decide_eq_true ⟨by omega, by omega⟩)
@[simp] theorem cMulL (h : -18446744073709551616 < i) (h2 : i < 18446744073709551616) : cMul i j = true := by
  unfold cMul
  rw [Bool.or_eq_true]
  exact .inl (decide_eq_true ⟨by omega, by omega⟩)
@[simp] theorem negD_int : negD (.int i) = some (.int (-i)) := Eq.trans rfl rfl
@[simp] theorem truD_none : truD .none = some false := Eq.trans rfl rfl
@[simp] theorem truD_bool : truD (.bool p) = some p := Eq.trans rfl rfl
@[simp] theorem truD_int : truD (.int i) = some (i != 0) := Eq.trans rfl rfl
@[simp] theorem truD_list : truD (.list ds) = some (!ds.isEmpty) := Eq.trans rfl rfl
@[simp] theorem truD_tuple : truD (.tuple ds) = some (!ds.isEmpty) := Eq.trans rfl rfl
@[simp] theorem lenD_list : lenD [.list ds] = some (.int ds.length) := Eq.trans rfl rfl
@[simp] theorem lenD_tuple : lenD [.tuple ds] = some (.int ds.length) := Eq.trans rfl rfl
@[simp] theorem lenD_str : lenD [.str x] = if x.length ≤ sizeLine then some (.int x.length) else none := Eq.trans rfl rfl
@[simp] theorem intD_int : intD [.int i] = some (.int i) := Eq.trans rfl rfl
@[simp] theorem intD_bool : intD [.bool p] = some (.int (if p then 1 else 0)) := Eq.trans rfl rfl
@[simp] theorem strD_int : strD [.int i] = if i.natAbs.log2 < 1920 then some (.str (toString i)) else none := Eq.trans rfl rfl
@[simp] theorem strD_str : strD [.str x] = some (.str x) := Eq.trans rfl rfl
@[simp] theorem strD_none : strD [.none] = some (.str "None") := Eq.trans rfl rfl
@[simp] theorem strD_bool : strD [.bool p] = some (.str (if p then "True" else "False")) := Eq.trans rfl rfl
@[simp] theorem listF_list : listF [.list ds] = some (.ow (.list ds)) := Eq.trans rfl rfl
@[simp] theorem listF_tuple : listF [.tuple ds] = some (.ow (.list ds)) := Eq.trans rfl rfl
@[simp] theorem tupX_list : tupX [.list ds] = some (.tuple ds) := Eq.trans rfl rfl
@[simp] theorem tupX_tuple : tupX [.tuple ds] = some (.tuple ds) := Eq.trans rfl rfl
@[simp] theorem tupX_str : tupX [.str x] = if x.length ≤ sizeLine then some (.tuple (signs x)) else none := Eq.trans rfl rfl
@[simp] theorem cutF_list {lo hi : Option Int} : cutF (.list ds) lo hi = some (.ow (.list (cutL ds lo hi))) := Eq.trans rfl rfl
@[simp] theorem cutF_tuple {lo hi : Option Int} : cutF (.tuple ds) lo hi = some (.sh (.tuple (cutL ds lo hi))) := Eq.trans rfl rfl
@[simp] theorem cutF_str {lo hi : Option Int} : cutF (.str x) lo hi = if x.length ≤ sizeLine then some (.sh (.str (cutS x lo hi))) else none := Eq.trans rfl rfl
@[simp] theorem revF_list : revF (.list ds) = some (.ow (.list ds.reverse)) := Eq.trans rfl rfl
@[simp] theorem revF_tuple : revF (.tuple ds) = some (.sh (.tuple ds.reverse)) := Eq.trans rfl rfl
@[simp] theorem revF_str : revF (.str x) = if x.length ≤ sizeLine then some (.sh (.str (revS x))) else none := Eq.trans rfl rfl
@[simp] theorem sortF_list : sortF [.list ds] = if sortOk ds = true then some (.ow (.list (sortL ds))) else none := Eq.trans rfl rfl
@[simp] theorem sortF_tuple : sortF [.tuple ds] = if sortOk ds = true then some (.ow (.list (sortL ds))) else none := Eq.trans rfl rfl
@[simp] theorem mutM_list {op : List D → List D → Option (D × List D)} : mutM op (.list ds) es = liftO (op ds es) := Eq.trans rfl rfl
@[simp] theorem appO_one : appO ds [d] = if ds.length < sizeLine then some (.none, ds ++ [d]) else none := Eq.trans rfl rfl
@[simp] theorem popO_nil : popO ds [] = (ds[ds.length - 1]?).map fun d => (d, ds.dropLast) := Eq.trans rfl rfl
@[simp] theorem setM_list : setM (.list ds) (.int i) d = match ixN ds.length i with
    | some m => .ok (ds.set m d)
    | none => .err := Eq.trans rfl rfl
@[simp] theorem ixM_list : ixM (.list ds) (.int i) = match ixN ds.length i with
    | some m => liftO ds[m]?
    | none => .err := Eq.trans rfl rfl
@[simp] theorem augI_int {f : Int → Int → Int} : augI f (.int i) (.int j) = .ok (f i j) := Eq.trans rfl rfl
theorem ixN_at {n : Nat} (h : 0 ≤ i) (h2 : i < n) : ixN n i = some i.toNat := by
  unfold ixN; rw [if_pos h, if_pos h2]
@[simp] theorem eqvI : PyData.eqv (.int i) (.int j) = (i == j) := by unfold PyData.eqv; rfl
@[simp] theorem eqvS : PyData.eqv (.str x) (.str y) = (x == y) := by unfold PyData.eqv; rfl
@[simp] theorem eqvBB : PyData.eqv (.bool p) (.bool q) = (p == q) := by unfold PyData.eqv; rfl
@[simp] theorem eqvT : PyData.eqv (.tuple ds) (.tuple es) = PyData.eqvAll ds es := by simp only [PyData.eqv]
@[simp] theorem eqvL : PyData.eqv (.list ds) (.list es) = PyData.eqvAll ds es := by simp only [PyData.eqv]
@[simp] theorem eqvA_nil : PyData.eqvAll [] [] = true := by simp only [PyData.eqvAll]
@[simp] theorem eqvA_nc : PyData.eqvAll [] (d :: ds) = false := by simp only [PyData.eqvAll]
@[simp] theorem eqvA_cn : PyData.eqvAll (d :: ds) [] = false := by simp only [PyData.eqvAll]
@[simp] theorem eqvA_cons : PyData.eqvAll (d :: ds) (e :: es) = (PyData.eqv d e && PyData.eqvAll ds es) := by simp only [PyData.eqvAll]
theorem tryM_okx {f : Nat → Option Bool} {z : St1 Unit α} : tryM f (.ok z) = .ok z := rfl
theorem tryM_exc {f : Nat → Option Bool} {c : Nat} (h : f c = some true) : tryM f (.exc c : M (St1 Unit α)) = .ok (.nx ()) := by unfold tryM; simp [h]
@[simp] theorem thenT_nx {κ : M β} {f : α → β} {u : Unit} : thenT κ f (.nx u) = κ := Eq.trans rfl rfl
@[simp] theorem thenT_rt {κ : M β} {f : α → β} {z : α} : thenT κ f (.rt z) = .ok (f z) := Eq.trans rfl rfl

variable {kvs : List (D × D)}
@[simp] theorem ia_int_none : instAny ["int"] .none = false := Eq.trans rfl rfl
@[simp] theorem ia_int_bool : instAny ["int"] (.bool p) = true := Eq.trans rfl rfl
@[simp] theorem ia_int_int : instAny ["int"] (.int i) = true := Eq.trans rfl rfl
@[simp] theorem ia_int_str : instAny ["int"] (.str x) = false := Eq.trans rfl rfl
@[simp] theorem ia_int_list : instAny ["int"] (.list ds) = false := Eq.trans rfl rfl
@[simp] theorem ia_int_tuple : instAny ["int"] (.tuple ds) = false := Eq.trans rfl rfl
@[simp] theorem ia_int_dict : instAny ["int"] (.dict kvs) = false := Eq.trans rfl rfl
@[simp] theorem ia_bool_none : instAny ["bool"] .none = false := Eq.trans rfl rfl
@[simp] theorem ia_bool_bool : instAny ["bool"] (.bool p) = true := Eq.trans rfl rfl
@[simp] theorem ia_bool_int : instAny ["bool"] (.int i) = false := Eq.trans rfl rfl
@[simp] theorem ia_bool_str : instAny ["bool"] (.str x) = false := Eq.trans rfl rfl
@[simp] theorem ia_bool_list : instAny ["bool"] (.list ds) = false := Eq.trans rfl rfl
@[simp] theorem ia_bool_tuple : instAny ["bool"] (.tuple ds) = false := Eq.trans rfl rfl
@[simp] theorem ia_bool_dict : instAny ["bool"] (.dict kvs) = false := Eq.trans rfl rfl
@[simp] theorem ia_str_none : instAny ["str"] .none = false := Eq.trans rfl rfl
@[simp] theorem ia_str_bool : instAny ["str"] (.bool p) = false := Eq.trans rfl rfl
@[simp] theorem ia_str_int : instAny ["str"] (.int i) = false := Eq.trans rfl rfl
@[simp] theorem ia_str_str : instAny ["str"] (.str x) = true := Eq.trans rfl rfl
@[simp] theorem ia_str_list : instAny ["str"] (.list ds) = false := Eq.trans rfl rfl
@[simp] theorem ia_str_tuple : instAny ["str"] (.tuple ds) = false := Eq.trans rfl rfl
@[simp] theorem ia_str_dict : instAny ["str"] (.dict kvs) = false := Eq.trans rfl rfl
@[simp] theorem ia_list_none : instAny ["list"] .none = false := Eq.trans rfl rfl
@[simp] theorem ia_list_bool : instAny ["list"] (.bool p) = false := Eq.trans rfl rfl
@[simp] theorem ia_list_int : instAny ["list"] (.int i) = false := Eq.trans rfl rfl
@[simp] theorem ia_list_str : instAny ["list"] (.str x) = false := Eq.trans rfl rfl
@[simp] theorem ia_list_list : instAny ["list"] (.list ds) = true := Eq.trans rfl rfl
@[simp] theorem ia_list_tuple : instAny ["list"] (.tuple ds) = false := Eq.trans rfl rfl
@[simp] theorem ia_list_dict : instAny ["list"] (.dict kvs) = false := Eq.trans rfl rfl
@[simp] theorem ia_tuple_none : instAny ["tuple"] .none = false := Eq.trans rfl rfl
@[simp] theorem ia_tuple_bool : instAny ["tuple"] (.bool p) = false := Eq.trans rfl rfl
@[simp] theorem ia_tuple_int : instAny ["tuple"] (.int i) = false := Eq.trans rfl rfl
@[simp] theorem ia_tuple_str : instAny ["tuple"] (.str x) = false := Eq.trans rfl rfl
@[simp] theorem ia_tuple_list : instAny ["tuple"] (.list ds) = false := Eq.trans rfl rfl
@[simp] theorem ia_tuple_tuple : instAny ["tuple"] (.tuple ds) = true := Eq.trans rfl rfl
@[simp] theorem ia_tuple_dict : instAny ["tuple"] (.dict kvs) = false := Eq.trans rfl rfl
@[simp] theorem ia_dict_none : instAny ["dict"] .none = false := Eq.trans rfl rfl
@[simp] theorem ia_dict_bool : instAny ["dict"] (.bool p) = false := Eq.trans rfl rfl
@[simp] theorem ia_dict_int : instAny ["dict"] (.int i) = false := Eq.trans rfl rfl
@[simp] theorem ia_dict_str : instAny ["dict"] (.str x) = false := Eq.trans rfl rfl
@[simp] theorem ia_dict_list : instAny ["dict"] (.list ds) = false := Eq.trans rfl rfl
@[simp] theorem ia_dict_tuple : instAny ["dict"] (.tuple ds) = false := Eq.trans rfl rfl
@[simp] theorem ia_dict_dict : instAny ["dict"] (.dict kvs) = true := Eq.trans rfl rfl
@[simp] theorem ia_int_tuple_none : instAny ["int", "tuple"] .none = false := Eq.trans rfl rfl
@[simp] theorem ia_int_tuple_bool : instAny ["int", "tuple"] (.bool p) = true := Eq.trans rfl rfl
@[simp] theorem ia_int_tuple_int : instAny ["int", "tuple"] (.int i) = true := Eq.trans rfl rfl
@[simp] theorem ia_int_tuple_str : instAny ["int", "tuple"] (.str x) = false := Eq.trans rfl rfl
@[simp] theorem ia_int_tuple_list : instAny ["int", "tuple"] (.list ds) = false := Eq.trans rfl rfl
@[simp] theorem ia_int_tuple_tuple : instAny ["int", "tuple"] (.tuple ds) = true := Eq.trans rfl rfl
@[simp] theorem ia_int_tuple_dict : instAny ["int", "tuple"] (.dict kvs) = false := Eq.trans rfl rfl
@[simp] theorem ia_list_tuple_none : instAny ["list", "tuple"] .none = false := Eq.trans rfl rfl
@[simp] theorem ia_list_tuple_bool : instAny ["list", "tuple"] (.bool p) = false := Eq.trans rfl rfl
@[simp] theorem ia_list_tuple_int : instAny ["list", "tuple"] (.int i) = false := Eq.trans rfl rfl
@[simp] theorem ia_list_tuple_str : instAny ["list", "tuple"] (.str x) = false := Eq.trans rfl rfl
@[simp] theorem ia_list_tuple_list : instAny ["list", "tuple"] (.list ds) = true := Eq.trans rfl rfl
@[simp] theorem ia_list_tuple_tuple : instAny ["list", "tuple"] (.tuple ds) = true := Eq.trans rfl rfl
@[simp] theorem ia_list_tuple_dict : instAny ["list", "tuple"] (.dict kvs) = false := Eq.trans rfl rfl
@[simp] theorem ia_int_str_none : instAny ["int", "str"] .none = false := Eq.trans rfl rfl
@[simp] theorem ia_int_str_bool : instAny ["int", "str"] (.bool p) = true := Eq.trans rfl rfl
@[simp] theorem ia_int_str_int : instAny ["int", "str"] (.int i) = true := Eq.trans rfl rfl
@[simp] theorem ia_int_str_str : instAny ["int", "str"] (.str x) = true := Eq.trans rfl rfl
@[simp] theorem ia_int_str_list : instAny ["int", "str"] (.list ds) = false := Eq.trans rfl rfl
@[simp] theorem ia_int_str_tuple : instAny ["int", "str"] (.tuple ds) = false := Eq.trans rfl rfl
@[simp] theorem ia_int_str_dict : instAny ["int", "str"] (.dict kvs) = false := Eq.trans rfl rfl
@[simp] theorem ia_str_int_none : instAny ["str", "int"] .none = false := Eq.trans rfl rfl
@[simp] theorem ia_str_int_bool : instAny ["str", "int"] (.bool p) = true := Eq.trans rfl rfl
@[simp] theorem ia_str_int_int : instAny ["str", "int"] (.int i) = true := Eq.trans rfl rfl
@[simp] theorem ia_str_int_str : instAny ["str", "int"] (.str x) = true := Eq.trans rfl rfl
@[simp] theorem ia_str_int_list : instAny ["str", "int"] (.list ds) = false := Eq.trans rfl rfl
@[simp] theorem ia_str_int_tuple : instAny ["str", "int"] (.tuple ds) = false := Eq.trans rfl rfl
@[simp] theorem ia_str_int_dict : instAny ["str", "int"] (.dict kvs) = false := Eq.trans rfl rfl
@[simp] theorem ia_tuple_list_none : instAny ["tuple", "list"] .none = false := Eq.trans rfl rfl
@[simp] theorem ia_tuple_list_bool : instAny ["tuple", "list"] (.bool p) = false := Eq.trans rfl rfl
@[simp] theorem ia_tuple_list_int : instAny ["tuple", "list"] (.int i) = false := Eq.trans rfl rfl
@[simp] theorem ia_tuple_list_str : instAny ["tuple", "list"] (.str x) = false := Eq.trans rfl rfl
@[simp] theorem ia_tuple_list_list : instAny ["tuple", "list"] (.list ds) = true := Eq.trans rfl rfl
@[simp] theorem ia_tuple_list_tuple : instAny ["tuple", "list"] (.tuple ds) = true := Eq.trans rfl rfl
@[simp] theorem ia_tuple_list_dict : instAny ["tuple", "list"] (.dict kvs) = false := Eq.trans rfl rfl
@[simp] theorem ia_str_tuple_none : instAny ["str", "tuple"] .none = false := Eq.trans rfl rfl
@[simp] theorem ia_str_tuple_bool : instAny ["str", "tuple"] (.bool p) = false := Eq.trans rfl rfl
@[simp] theorem ia_str_tuple_int : instAny ["str", "tuple"] (.int i) = false := Eq.trans rfl rfl
@[simp] theorem ia_str_tuple_str : instAny ["str", "tuple"] (.str x) = true := Eq.trans rfl rfl
@[simp] theorem ia_str_tuple_list : instAny ["str", "tuple"] (.list ds) = false := Eq.trans rfl rfl
@[simp] theorem ia_str_tuple_tuple : instAny ["str", "tuple"] (.tuple ds) = true := Eq.trans rfl rfl
@[simp] theorem ia_str_tuple_dict : instAny ["str", "tuple"] (.dict kvs) = false := Eq.trans rfl rfl
@[simp] theorem ia_bool_int_none : instAny ["bool", "int"] .none = false := Eq.trans rfl rfl
@[simp] theorem ia_bool_int_bool : instAny ["bool", "int"] (.bool p) = true := Eq.trans rfl rfl
@[simp] theorem ia_bool_int_int : instAny ["bool", "int"] (.int i) = true := Eq.trans rfl rfl
@[simp] theorem ia_bool_int_str : instAny ["bool", "int"] (.str x) = false := Eq.trans rfl rfl
@[simp] theorem ia_bool_int_list : instAny ["bool", "int"] (.list ds) = false := Eq.trans rfl rfl
@[simp] theorem ia_bool_int_tuple : instAny ["bool", "int"] (.tuple ds) = false := Eq.trans rfl rfl
@[simp] theorem ia_bool_int_dict : instAny ["bool", "int"] (.dict kvs) = false := Eq.trans rfl rfl
end

/-! ### what holds of an answer -/
def Sat {α : Type} (m : M α) (P : α → Prop) : Prop := ∃ a, m = .ok a ∧ P a
section
variable {α β : Type} {m : M α} {f : α → M β} {P Q : α → Prop} {R : β → Prop}
@[simp] theorem sat_ok {a : α} : Sat (.ok a) P ↔ P a := ⟨fun ⟨_, e, h⟩ => by cases e; exact h, fun h => ⟨a, rfl, h⟩⟩
@[simp] theorem sat_err : ¬ Sat (.err : M α) P := fun ⟨_, e, _⟩ => nomatch e
@[simp] theorem sat_exc {c : Nat} : ¬ Sat (.exc c : M α) P := fun ⟨_, e, _⟩ => nomatch e
theorem Sat.of {a : α} (h : P a) : Sat (.ok a) P := ⟨a, rfl, h⟩
theorem Sat.mono (h : Sat m P) (w : ∀ a, P a → Q a) : Sat m Q := let ⟨a, e, p⟩ := h; ⟨a, e, w a p⟩
theorem Sat.bind (h : Sat m P) (w : ∀ a, P a → Sat (f a) R) : Sat (m.bind f) R := by
  obtain ⟨a, rfl, p⟩ := h; exact w a p
theorem sat_bind : Sat (m.bind f) R ↔ Sat m fun a => Sat (f a) R := by
  constructor
  · intro ⟨b, e, r⟩
    cases m with
    | ok a => exact ⟨a, rfl, b, e, r⟩
    | exc c => cases e
    | err => cases e
  · intro h
    exact Sat.bind h fun _ r => r
@[simp] theorem sat_noX : Sat m.noX P ↔ Sat m P := by
  constructor
  · intro ⟨a, e, p⟩
    cases m with
    | ok b => exact ⟨a, e, p⟩
    | exc c => cases e
    | err => cases e
  · intro ⟨a, e, p⟩
    subst e; exact ⟨a, rfl, p⟩
theorem Sat.if {c : Prop} [Decidable c] {m n : M α} (h1 : c → Sat m P) (h2 : ¬ c → Sat n P) : Sat (if c then m else n) P := by
  split
  · exact h1 ‹_›
  · exact h2 ‹_›
theorem sat_eq {a : α} : Sat m (fun x => x = a) ↔ m = .ok a := ⟨fun ⟨b, e, h⟩ => by rw [e, h], fun h => ⟨a, h, rfl⟩⟩
/-- loops -/
theorem foldM_sat {B : Type} {f : B → D → M B} {P : B → Prop} : ∀ {ds : List D} {b : B}, (∀ b d, d ∈ ds → P b → Sat (f b d) P) → P b → Sat (foldM f ds b) P
  | [], b, _, h => ⟨b, rfl, h⟩
  | d :: ds, b, hf, h => (hf b d List.mem_cons_self h).bind fun b' h' => foldM_sat (fun b e he => hf b e (List.mem_cons_of_mem _ he)) h'
theorem foldM_idx {B : Type} {f : B → D → M B} (P : Nat → B → Prop) : ∀ {ds : List D} {n : Nat} {b : B}, (∀ i b d, ds[i]? = some d → P (n + i) b → Sat (f b d) (P (n + i + 1))) → P n b → Sat (foldM f ds b) (P (n + ds.length))
  | [], n, b, _, h => ⟨b, rfl, h⟩
  | d :: ds, n, b, hf, h => (hf 0 b d rfl h).bind fun b' h' => by
    have := foldM_idx (f := f) P (ds := ds) (n := n + 1) (b := b') (fun i b e he hp => by
      have := hf (i + 1) b e (by simpa using he) (by have e : n + (i + 1) = n + 1 + i := by omega
                                                     rw [e]; exact hp)
      have e : n + (i + 1) + 1 = n + 1 + i + 1 := by omega
      rw [e] at this; exact this) h'
    have e : n + (d :: ds).length = n + 1 + ds.length := by rw [List.length_cons]; omega
    rw [e]; exact this
/-- what a turn's end tells: on with P, or ended with Q -/
def EndP {B φ : Type} (P : B → Prop) (Q : B ⊕ φ → Prop) : St1 B φ → Prop
  | .nx b => P b
  | .br b => Q (.inl b)
  | .rt w => Q (.inr w)
@[simp] theorem endP_nx {B φ : Type} {P : B → Prop} {Q : B ⊕ φ → Prop} {b : B} : EndP P Q (.nx b) = P b := Eq.trans rfl rfl
@[simp] theorem endP_br {B φ : Type} {P : B → Prop} {Q : B ⊕ φ → Prop} {b : B} : EndP P Q (.br b) = Q (.inl b) := Eq.trans rfl rfl
@[simp] theorem endP_rt {B φ : Type} {P : B → Prop} {Q : B ⊕ φ → Prop} {w : φ} : EndP P Q (.rt w) = Q (.inr w) := Eq.trans rfl rfl
/-- a loop that goes on, or returns -/
theorem forM_sat {B φ : Type} {f : B → D → M (St1 B φ)} {P : B → Prop} {Q : B ⊕ φ → Prop} : ∀ {ds : List D} {b : B}, (∀ b d, d ∈ ds → P b → Sat (f b d) (EndP P Q)) → (∀ b, P b → Q (.inl b)) → P b → Sat (forM f ds b) Q
  | [], b, _, hq, h => ⟨_, rfl, hq b h⟩
  | d :: ds, b, hf, hq, h => (hf b d List.mem_cons_self h).bind fun r hr => by
    cases r with
    | nx b' => exact forM_sat (fun b e he => hf b e (List.mem_cons_of_mem _ he)) hq hr
    | br b' => exact ⟨_, rfl, hr⟩
    | rt w => exact ⟨_, rfl, hr⟩
theorem forM_idx {B φ : Type} {f : B → D → M (St1 B φ)} (P : Nat → B → Prop) {Q : B ⊕ φ → Prop} : ∀ {ds : List D} {n : Nat} {b : B}, (∀ i b d, ds[i]? = some d → P (n + i) b → Sat (f b d) (EndP (P (n + i + 1)) Q)) → (∀ b, P (n + ds.length) b → Q (.inl b)) → P n b → Sat (forM f ds b) Q
  | [], n, b, _, hq, h => ⟨_, rfl, hq b h⟩
  | d :: ds, n, b, hf, hq, h => (hf 0 b d rfl h).bind fun r hr => by
    have el : n + (d :: ds).length = n + 1 + ds.length := by rw [List.length_cons]; omega
    cases r with
    | nx b' =>
      exact forM_idx P (ds := ds) (n := n + 1) (b := b') (fun i b e he hp => by
        have := hf (i + 1) b e (by simpa using he) (by have e : n + (i + 1) = n + 1 + i := by omega
                                                       rw [e]; exact hp)
        have e : n + (i + 1) + 1 = n + 1 + i + 1 := by omega
        rw [e] at this; exact this) (by rw [← el]; exact hq) hr
    | br b' => exact ⟨_, rfl, hr⟩
    | rt w => exact ⟨_, rfl, hr⟩
/-- comprehensions -/
theorem lcE_sat {f : D → M D} {P : D → Prop} : ∀ {ds : List D}, (∀ d ∈ ds, Sat (f d) P) → Sat (lcE f ds) fun out => out.length = ds.length ∧ ∀ d ∈ out, P d
  | [], _ => ⟨[], rfl, rfl, fun _ h => absurd h List.not_mem_nil⟩
  | d :: ds, hf => (hf d List.mem_cons_self).bind fun x hx => (lcE_sat fun e he => hf e (List.mem_cons_of_mem _ he)).bind fun xs hxs => ⟨_, rfl, by rw [List.length_cons, List.length_cons, hxs.1], List.forall_mem_cons.mpr ⟨hx, hxs.2⟩⟩
theorem lcE_map {f : D → M D} {g : D → D} : ∀ {ds : List D}, (∀ d ∈ ds, f d = .ok (g d)) → lcE f ds = .ok (ds.map g)
  | [], _ => rfl
  | d :: ds, h => by rw [lcE_cons, h d List.mem_cons_self, lcE_map fun e he => h e (List.mem_cons_of_mem _ he)]; rfl
theorem lcE_enc {γ : Type} {f : D → M D} {enc g : γ → D} : ∀ {xs : List γ}, (∀ x ∈ xs, f (enc x) = .ok (g x)) → lcE f (xs.map enc) = .ok (xs.map g)
  | [], _ => rfl
  | d :: ds, h => by rw [List.map_cons, lcE_cons, h d List.mem_cons_self, lcE_enc fun e he => h e (List.mem_cons_of_mem _ he)]; rfl
theorem lcF_map {f : D → M (Option D)} {p : D → Bool} {g : D → D} : ∀ {ds : List D}, (∀ d ∈ ds, f d = .ok (if p d = true then some (g d) else none)) → lcF f ds = .ok ((ds.filter p).map g)
  | [], _ => rfl
  | d :: ds, h => by
    rw [lcF_cons, h d List.mem_cons_self, lcF_map fun e he => h e (List.mem_cons_of_mem _ he)]
    cases hp : p d <;> simp [hp]
theorem lcF_enc {γ : Type} {f : D → M (Option D)} {enc g : γ → D} {p : γ → Bool} : ∀ {xs : List γ}, (∀ x ∈ xs, f (enc x) = .ok (if p x = true then some (g x) else none)) → lcF f (xs.map enc) = .ok ((xs.filter p).map g)
  | [], _ => rfl
  | d :: ds, h => by
    rw [List.map_cons, lcF_cons, h d List.mem_cons_self, lcF_enc fun e he => h e (List.mem_cons_of_mem _ he)]
    cases hp : p d <;> simp [hp]
theorem lcS_sat {B : Type} {f : B → D → M (Option D × B)} {P : B → Prop} {Q : D → Prop} : ∀ {ds : List D} {b : B}, (∀ b d, d ∈ ds → P b → Sat (f b d) fun r => (∀ y, r.1 = some y → Q y) ∧ P r.2) → P b → Sat (lcS f ds b) fun r => (∀ d ∈ r.1, Q d) ∧ r.1.length ≤ ds.length ∧ P r.2
  | [], b, _, h => ⟨_, rfl, fun _ h => absurd h List.not_mem_nil, Nat.le_refl _, h⟩
  | d :: ds, b, hf, h => (hf b d List.mem_cons_self h).bind fun r hr => (lcS_sat (fun b e he => hf b e (List.mem_cons_of_mem _ he)) hr.2).bind fun q hq => ⟨_, rfl, by
    refine ⟨fun e he => ?_, ?_, hq.2.2⟩
    · rcases List.mem_append.mp he with he | he
      · cases hy : r.1 with
        | none => rw [hy] at he; simp at he
        | some y => rw [hy] at he; simp at he; subst he; exact hr.1 _ hy
      · exact hq.1 e he
    · have : r.1.toList.length ≤ 1 := by cases r.1 <;> simp
      have := hq.2.1
      simp only [List.length_append, List.length_cons]; omega⟩
/-- .. each item told -/
theorem lcS_all {B : Type} {f : B → D → M (Option D × B)} {P : B → Prop} {Q : D → D → Prop} : ∀ {ds : List D} {b : B}, (∀ b d, d ∈ ds → P b → Sat (f b d) fun r => (∃ y, r.1 = some y ∧ Q d y) ∧ P r.2) → P b → Sat (lcS f ds b) fun r => All2 Q ds r.1 ∧ P r.2
  | [], b, _, h => ⟨_, rfl, .nil, h⟩
  | d :: ds, b, hf, h => (hf b d List.mem_cons_self h).bind fun r hr => (lcS_all (fun b e he => hf b e (List.mem_cons_of_mem _ he)) hr.2).bind fun q hq => ⟨_, rfl, by
    obtain ⟨y, e, hy⟩ := hr.1
    rw [e]
    exact ⟨.cons hy hq.1, hq.2⟩⟩
end
section
variable {α β : Type} {b : Bool} {x y : α} {l : List α} {n : Nat} {f : α → β}
theorem sv_and_t : (b && true) = b := Bool.and_true b
theorem sv_t_and : (true && b) = b := Bool.true_and b
theorem sv_and_s : (b && b) = b := Bool.and_self b
theorem sv_and_f : (b && false) = false := Bool.and_false b
theorem sv_f_and : (false && b) = false := Bool.false_and b
theorem sv_not_t : (!true) = false := Bool.not_true
theorem sv_not_f : (!false) = true := Bool.not_false
theorem sv_if_t {_ : Decidable True} : (if True then x else y) = x := if_pos trivial
theorem sv_if_f {_ : Decidable False} : (if False then x else y) = y := if_neg id
theorem sv_ft : (false = true) = False := Bool.false_eq_true
theorem sv_tt : (true = true) = True := eq_self true
theorem sv_dt {_ : Decidable True} : decide True = true := decide_eq_true trivial
theorem sv_df {_ : Decidable False} : decide False = false := decide_eq_false id
theorem sv_ms : (some x).map f = some (f x) := by rfl
theorem sv_mn : (none : Option α).map f = none := by rfl
theorem sv_g0 : (x :: l)[0]? = some x := List.getElem?_cons_zero
theorem sv_g1 : (x :: l)[n + 1]? = l[n]? := List.getElem?_cons_succ
theorem sv_beqI {i : Int} : (i == i) = true := beq_self_eq_true i
theorem sv_beqB {i : Bool} : (i == i) = true := beq_self_eq_true i
theorem sv_beqS {i : Str} : (i == i) = true := beq_self_eq_true i
end
local macro_rules
  | `(tactic| simp_arith [$xs,*]) => `(tactic| simp only [M.ok_bind, M.exc_bind, M.err_bind, M.bind_assoc, M.noX_ok, liftO_some, liftO_none, liftS_sh, liftS_ow, liftS_none, noX_err, noX_exc, noX_bind, noX_noX, noX_ite, noX_liftO, noX_liftS, ite_okB, ite_okD, intM_int, isLst_list, isInt_int, isStr_str, tup2_tuple, tup3_tuple, two_two, itM_list, itM_tuple, itM_str, rng1_int, rng2_int, orRet_inl, orRet_inr, forM_nil, foldM_nil, lcE_nil, lcF_nil, ixD_list, ixD_tuple, atI_0, atI_1, atI_2, atI_3, eqB_eq, neB_eq, cmpI, cmpB, cmpN, cmpS, isNone_none, noNone_none, isBB_bool, noBB_bool, inB_list, inB_tuple, niB_eq, opBD_eq, addS_int, addS_str, addS_tuple, addS_list, iiD_int, iiB_int, cMulR, cMulL, negD_int, truD_none, truD_bool, truD_int, truD_list, truD_tuple, lenD_list, lenD_tuple, lenD_str, intD_int, intD_bool, strD_int, strD_str, strD_none, strD_bool, listF_list, listF_tuple, tupX_list, tupX_tuple, tupX_str, cutF_list, cutF_tuple, cutF_str, revF_list, revF_tuple, revF_str, sortF_list, sortF_tuple, mutM_list, appO_one, popO_nil, setM_list, ixM_list, augI_int, eqvI, eqvS, eqvBB, eqvT, eqvL, eqvA_nil, eqvA_nc, eqvA_cn, eqvA_cons, thenT_nx, thenT_rt, ia_int_none, ia_int_bool, ia_int_int, ia_int_str, ia_int_list, ia_int_tuple, ia_int_dict, ia_bool_none, ia_bool_bool, ia_bool_int, ia_bool_str, ia_bool_list, ia_bool_tuple, ia_bool_dict, ia_str_none, ia_str_bool, ia_str_int, ia_str_str, ia_str_list, ia_str_tuple, ia_str_dict, ia_list_none, ia_list_bool, ia_list_int, ia_list_str, ia_list_list, ia_list_tuple, ia_list_dict, ia_tuple_none, ia_tuple_bool, ia_tuple_int, ia_tuple_str, ia_tuple_list, ia_tuple_tuple, ia_tuple_dict, ia_dict_none, ia_dict_bool, ia_dict_int, ia_dict_str, ia_dict_list, ia_dict_tuple, ia_dict_dict, ia_int_tuple_none, ia_int_tuple_bool, ia_int_tuple_int, ia_int_tuple_str, ia_int_tuple_list, ia_int_tuple_tuple, ia_int_tuple_dict, ia_list_tuple_none, ia_list_tuple_bool, ia_list_tuple_int, ia_list_tuple_str, ia_list_tuple_list, ia_list_tuple_tuple, ia_list_tuple_dict, ia_int_str_none, ia_int_str_bool, ia_int_str_int, ia_int_str_str, ia_int_str_list, ia_int_str_tuple, ia_int_str_dict, ia_str_int_none, ia_str_int_bool, ia_str_int_int, ia_str_int_str, ia_str_int_list, ia_str_int_tuple, ia_str_int_dict, ia_tuple_list_none, ia_tuple_list_bool, ia_tuple_list_int, ia_tuple_list_str, ia_tuple_list_list, ia_tuple_list_tuple, ia_tuple_list_dict, ia_str_tuple_none, ia_str_tuple_bool, ia_str_tuple_int, ia_str_tuple_str, ia_str_tuple_list, ia_str_tuple_tuple, ia_str_tuple_dict, ia_bool_int_none, ia_bool_int_bool, ia_bool_int_int, ia_bool_int_str, ia_bool_int_list, ia_bool_int_tuple, ia_bool_int_dict, sat_ok, sat_err, sat_exc, sat_noX, endP_nx, endP_br, endP_rt, sv_and_t, sv_t_and, sv_and_s, sv_and_f, sv_f_and, sv_not_t, sv_not_f, sv_if_t, sv_if_f, sv_ft, sv_tt, sv_dt, sv_df, sv_ms, sv_mn, sv_g0, sv_g1, sv_beqI, sv_beqB, sv_beqS, $xs,*])
  | `(tactic| simp_arith) => `(tactic| simp only [M.ok_bind, M.exc_bind, M.err_bind, M.bind_assoc, M.noX_ok, liftO_some, liftO_none, liftS_sh, liftS_ow, liftS_none, noX_err, noX_exc, noX_bind, noX_noX, noX_ite, noX_liftO, noX_liftS, ite_okB, ite_okD, intM_int, isLst_list, isInt_int, isStr_str, tup2_tuple, tup3_tuple, two_two, itM_list, itM_tuple, itM_str, rng1_int, rng2_int, orRet_inl, orRet_inr, forM_nil, foldM_nil, lcE_nil, lcF_nil, ixD_list, ixD_tuple, atI_0, atI_1, atI_2, atI_3, eqB_eq, neB_eq, cmpI, cmpB, cmpN, cmpS, isNone_none, noNone_none, isBB_bool, noBB_bool, inB_list, inB_tuple, niB_eq, opBD_eq, addS_int, addS_str, addS_tuple, addS_list, iiD_int, iiB_int, cMulR, cMulL, negD_int, truD_none, truD_bool, truD_int, truD_list, truD_tuple, lenD_list, lenD_tuple, lenD_str, intD_int, intD_bool, strD_int, strD_str, strD_none, strD_bool, listF_list, listF_tuple, tupX_list, tupX_tuple, tupX_str, cutF_list, cutF_tuple, cutF_str, revF_list, revF_tuple, revF_str, sortF_list, sortF_tuple, mutM_list, appO_one, popO_nil, setM_list, ixM_list, augI_int, eqvI, eqvS, eqvBB, eqvT, eqvL, eqvA_nil, eqvA_nc, eqvA_cn, eqvA_cons, thenT_nx, thenT_rt, ia_int_none, ia_int_bool, ia_int_int, ia_int_str, ia_int_list, ia_int_tuple, ia_int_dict, ia_bool_none, ia_bool_bool, ia_bool_int, ia_bool_str, ia_bool_list, ia_bool_tuple, ia_bool_dict, ia_str_none, ia_str_bool, ia_str_int, ia_str_str, ia_str_list, ia_str_tuple, ia_str_dict, ia_list_none, ia_list_bool, ia_list_int, ia_list_str, ia_list_list, ia_list_tuple, ia_list_dict, ia_tuple_none, ia_tuple_bool, ia_tuple_int, ia_tuple_str, ia_tuple_list, ia_tuple_tuple, ia_tuple_dict, ia_dict_none, ia_dict_bool, ia_dict_int, ia_dict_str, ia_dict_list, ia_dict_tuple, ia_dict_dict, ia_int_tuple_none, ia_int_tuple_bool, ia_int_tuple_int, ia_int_tuple_str, ia_int_tuple_list, ia_int_tuple_tuple, ia_int_tuple_dict, ia_list_tuple_none, ia_list_tuple_bool, ia_list_tuple_int, ia_list_tuple_str, ia_list_tuple_list, ia_list_tuple_tuple, ia_list_tuple_dict, ia_int_str_none, ia_int_str_bool, ia_int_str_int, ia_int_str_str, ia_int_str_list, ia_int_str_tuple, ia_int_str_dict, ia_str_int_none, ia_str_int_bool, ia_str_int_int, ia_str_int_str, ia_str_int_list, ia_str_int_tuple, ia_str_int_dict, ia_tuple_list_none, ia_tuple_list_bool, ia_tuple_list_int, ia_tuple_list_str, ia_tuple_list_list, ia_tuple_list_tuple, ia_tuple_list_dict, ia_str_tuple_none, ia_str_tuple_bool, ia_str_tuple_int, ia_str_tuple_str, ia_str_tuple_list, ia_str_tuple_tuple, ia_str_tuple_dict, ia_bool_int_none, ia_bool_int_bool, ia_bool_int_int, ia_bool_int_str, ia_bool_int_list, ia_bool_int_tuple, ia_bool_int_dict, sat_ok, sat_err, sat_exc, sat_noX, endP_nx, endP_br, endP_rt, sv_and_t, sv_t_and, sv_and_s, sv_and_f, sv_f_and, sv_not_t, sv_not_f, sv_if_t, sv_if_f, sv_ft, sv_tt, sv_dt, sv_df, sv_ms, sv_mn, sv_g0, sv_g1, sv_beqI, sv_beqB, sv_beqS])
set_option Elab.async false
set_option linter.all false
set_option maxRecDepth 100000
set_option maxHeartbeats 0
open PySem L2
def mb__law_next (v0 v1 : D) : M (D × D) :=
  ((((((M.ok v0).bind fun x25 => (M.ok (.int 2)).bind fun x26 => (liftO (ixD x25 x26)).bind fun d27 => M.ok d27).bind fun x28 => (M.ok (.int 0)).bind fun x29 => (liftO (eqB x28 x29)).bind fun d30 => M.ok d30).bind fun x31 => if x31 = true then (((M.ok v0).bind fun x32 => (M.ok (.int 1)).bind fun x33 => (liftO (ixD x32 x33)).bind fun d34 => M.ok d34).bind fun x35 => ((((M.ok v0).bind fun x36 => (M.ok (.int 0)).bind fun x37 => (liftO (ixD x36 x37)).bind fun d38 => M.ok d38).bind fun x39 => (M.ok []).bind fun x40 => M.ok (x39 :: x40)).bind fun x41 => (liftO (lenD x41)).bind fun d42 => M.ok d42).bind fun x43 => (liftO (ltB x35 x43)).bind fun d44 => M.ok d44) else M.ok false).bind fun t46 => if t46 = true then ((((M.ok v0).bind fun x47 => (M.ok (.int 0)).bind fun x48 => (liftO (ixD x47 x48)).bind fun d49 => M.ok d49).bind fun x50 => ((M.ok v0).bind fun x51 => (M.ok (.int 1)).bind fun x52 => (liftO (ixD x51 x52)).bind fun d53 => M.ok d53).bind fun x54 => (liftO (ixD x50 x54)).bind fun d55 => M.ok d55).bind fun a56 => ((isLst v0).bind fun _ => (M.ok (.int 1)).bind fun x57 => (ixM v0 x57).bind fun o59 => (isInt o59).bind fun _ => (M.ok (.int 1)).bind fun x58 => (augI (fun i j => i + j) o59 x58).bind fun n60 => (setM v0 x57 (.int n60)).bind fun l61 => (((M.ok a56).bind fun x62 => ((M.ok (.int 10)).bind fun x63 => (M.ok (.int 18)).bind fun x64 => (liftO (powD x63 x64)).bind fun d65 => M.ok d65).bind fun x66 => (liftO (geB x62 x66)).bind fun d67 => M.ok d67).bind fun t68 => if t68 = true then ((M.ok a56).bind fun x69 => (isLst (.list l61)).bind fun _ => (M.ok (.int 2)).bind fun x70 => (setM (.list l61) x70 x69).bind fun l71 => (M.ok (.list l71))) else (((((((((M.ok (.list l61)).bind fun x72 => (M.ok (.int 3)).bind fun x73 => (liftO (ixD x72 x73)).bind fun d74 => M.ok d74).bind fun x75 => (M.ok (.int 48271)).bind fun x76 => (liftO (mulD x75 x76)).bind fun d77 => M.ok d77).bind fun x78 => ((((M.ok a56).bind fun x79 => (M.ok []).bind fun x80 => M.ok (x79 :: x80)).bind fun x81 => (liftO (intD x81)).bind fun d82 => M.ok d82).bind fun x83 => (M.ok (.int 2147483647)).bind fun x84 => (liftO (modD x83 x84)).bind fun d85 => M.ok d85).bind fun x86 => (liftS (addS x78 x86)).bind fun d87 => M.ok d87).bind fun x88 => (M.ok (.int 7)).bind fun x89 => (liftS (addS x88 x89)).bind fun d90 => M.ok d90).bind fun x91 => (M.ok []).bind fun x92 => M.ok (x91 :: x92)).bind fun x93 => (liftO (intD x93)).bind fun d94 => M.ok d94).bind fun x95 => (M.ok (.int 2147483647)).bind fun x96 => (liftO (modD x95 x96)).bind fun d97 => M.ok d97).bind fun x98 => (isLst (.list l61)).bind fun _ => (M.ok (.int 3)).bind fun x99 => (setM (.list l61) x99 x98).bind fun l100 => (M.ok (.list l100)))))) else (M.ok v0)).bind fun (s23 : D) => ((((M.ok s23).bind fun x101 => (M.ok (.int 2)).bind fun x102 => (liftO (ixD x101 x102)).bind fun d103 => M.ok d103).bind fun x104 => (M.ok (.int 0)).bind fun x105 => (liftO (gtB x104 x105)).bind fun d106 => M.ok d106).bind fun t107 => if t107 = true then ((((((M.ok s23).bind fun x108 => (M.ok (.int 2)).bind fun x109 => (liftO (ixD x108 x109)).bind fun d110 => M.ok d110).bind fun x111 => (M.ok []).bind fun x112 => M.ok (x111 :: x112)).bind fun x113 => (liftO (intD x113)).bind fun d114 => M.ok d114).bind fun x115 => (M.ok v1).bind fun x116 => (liftO (modD x115 x116)).bind fun d117 => M.ok d117).bind fun a118 => ((((M.ok s23).bind fun x119 => (M.ok (.int 2)).bind fun x120 => (liftO (ixD x119 x120)).bind fun d121 => M.ok d121).bind fun x122 => (M.ok v1).bind fun x123 => (liftO (fdvD x122 x123)).bind fun d124 => M.ok d124).bind fun x125 => (isLst s23).bind fun _ => (M.ok (.int 2)).bind fun x126 => (setM s23 x126 x125).bind fun l127 => (M.ok (a118, (.list l127))))) else ((((((((M.ok s23).bind fun x128 => (M.ok (.int 3)).bind fun x129 => (liftO (ixD x128 x129)).bind fun d130 => M.ok d130).bind fun x131 => (M.ok (.int 69621)).bind fun x132 => (liftO (mulD x131 x132)).bind fun d133 => M.ok d133).bind fun x134 => (M.ok (.int 12345)).bind fun x135 => (liftS (addS x134 x135)).bind fun d136 => M.ok d136).bind fun x137 => (M.ok []).bind fun x138 => M.ok (x137 :: x138)).bind fun x139 => (liftO (intD x139)).bind fun d140 => M.ok d140).bind fun x141 => (M.ok (.int 2147483647)).bind fun x142 => (liftO (modD x141 x142)).bind fun d143 => M.ok d143).bind fun x144 => (isLst s23).bind fun _ => (M.ok (.int 3)).bind fun x145 => (setM s23 x145 x144).bind fun l146 => (((((((M.ok (.list l146)).bind fun x147 => (M.ok (.int 3)).bind fun x148 => (liftO (ixD x147 x148)).bind fun d149 => M.ok d149).bind fun x150 => (M.ok (.int 7)).bind fun x151 => (liftO (fdvD x150 x151)).bind fun d152 => M.ok d152).bind fun x153 => (M.ok []).bind fun x154 => M.ok (x153 :: x154)).bind fun x155 => (liftO (intD x155)).bind fun d156 => M.ok d156).bind fun x157 => (M.ok v1).bind fun x158 => (liftO (modD x157 x158)).bind fun d159 => M.ok d159).bind fun a160 => M.ok (a160, (.list l146)))))).noX
def mc__law_next (ds : List D) : M (D × D) := match ds with
  | [v0, v1] => mb__law_next v0 v1
  | _ => .err
def m__law_next : List D → M (D × D) := mc__law_next
theorem mdb__law_next (v0 v1 : D) : Fr1 (mb__law_next v0 v1) (fnD 4 [0] b__law_next [v0, v1]) := fr1_of (n := 4) (d := v0) (ds := [v1]) (by delta b__law_next; exact (rt_seq (rt_join (S := D) (fun s23 => [.rf s23, .sh v1, .un, .em]) (fun s23 => (rk_of (rt_seq (rt_if (ed_binB0 (ed_bin0 (ed_bor (i := 0) (by rfl)) (fun x101 => ed_con)) (fun x104 => ed_con)) (fun _ _ _ _ => trivial) (fun t107 => (rt_seq (rt_asg (i := 3) kdSh (es_sh (ed_bin0 (ed_ops0 (el_cons0 (ed_bin0 (ed_bor (i := 0) (by rfl)) (fun x108 => ed_con)) (fun x111 => el_nil))) (fun x115 => (ed_bor (i := 1) (by rfl))))) (fun _ _ _ _ => trivial) (by intros; rfl) (fun a118 => (rk_of (rt_seq (rt_sub (i := 0) (ed_bin0 (ed_bin0 (ed_bor (i := 0) (by rfl)) (fun x119 => ed_con)) (fun x122 => (ed_bor (i := 1) (by rfl)))) (fun _ _ _ _ => trivial) (by intros; rfl) (fun x125 => ed_con) (fun _ => (fun _ _ _ _ => trivial)) (by intros; rfl) (fun x125 x126 l127 => (rk_of (rt_retV1 rfl (i := 3) rfl rfl (by decide))))))))))) (fun t107 => (rt_skip (rk_of (rt_seq (rt_sub (i := 0) (ed_bin0 (ed_ops0 (el_cons0 (ed_fz kdFo (es_bin0 fo_add (ed_bin0 (ed_bin0 (ed_bor (i := 0) (by rfl)) (fun x128 => ed_con)) (fun x131 => ed_con)) (fun x134 => ed_con))) (fun x137 => el_nil))) (fun x141 => ed_con)) (fun _ _ _ _ => trivial) (by intros; rfl) (fun x144 => ed_con) (fun _ => (fun _ _ _ _ => trivial)) (by intros; rfl) (fun x144 x145 l146 => (rk_of (rt_ret1 rfl (e := fun (a160 : D) => (.list l146)) kdSh (es_sh (ed_bin0 (ed_ops0 (el_cons0 (ed_bin0 (ed_bin0 (ed_bor (i := 0) (by rfl)) (fun x147 => ed_con)) (fun x150 => ed_con)) (fun x153 => el_nil))) (fun x157 => (ed_bor (i := 1) (by rfl))))) (fun _ _ _ _ => trivial) (by intros; rfl))))))))))))) (fun hj24 => (rt_if (ed_andL (v := fun (q : Bool) => q) (ρ' := fun _ => [.rf v0, .sh v1, .em, .em]) (ed_binB0 (ed_bin0 (ed_bor (i := 0) (by rfl)) (fun x25 => ed_con)) (fun x28 => ed_con)) (fun x31 => (ed_binB0 (ed_bin0 (ed_bor (i := 0) (by rfl)) (fun x32 => ed_con)) (fun x35 => (ed_ops0 (el_cons0 (ed_bin0 (ed_bor (i := 0) (by rfl)) (fun x36 => ed_con)) (fun x39 => el_nil)))))) (by intros; rfl) (fun x31 => by (first | exact LeE.refl _ | (unfold LeE; (repeat' (first | exact All2.nil | refine All2.cons ?_ ?_)) <;> first | exact trivial | exact rfl | exact Or.inl rfl | exact Or.inr (Or.inl rfl) | exact Or.inr (Or.inr (Or.inl rfl)) | exact Or.inr (Or.inr (Or.inr rfl)) | exact Or.inr ⟨rfl, rfl⟩ | exact Or.inr (Or.inl ⟨rfl, rfl⟩) | exact Or.inr (Or.inr ⟨rfl, rfl⟩))))) (fun _ _ _ _ => trivial) (fun t46 => (rt_seq (rt_asg (i := 2) kdSh (es_sh (ed_bin0 (ed_bin0 (ed_bor (i := 0) (by rfl)) (fun x47 => ed_con)) (fun x50 => (ed_bin0 (ed_bor (i := 0) (by rfl)) (fun x51 => ed_con))))) (fun _ _ _ _ => trivial) (by intros; rfl) (fun a56 => (rk_of (rt_seq (rt_aug (i := 0) rfl ed_con (fun _ _ _ _ => trivial) (by intros; rfl) (fun x57 => ed_con) (fun _ => (fun _ _ _ _ => trivial)) (by intros; rfl) (fun x57 x58 l61 => (rk_of (rt_if (ed_binB0 (ed_bor (i := 2) (by rfl)) (fun x62 => (ed_bin0 ed_con (fun x63 => ed_con)))) (fun _ _ _ _ => trivial) (fun t68 => (rt_sub (i := 0) (ed_varS (i := 2) (by rfl)) (fun _ _ _ _ => trivial) (by intros; rfl) (fun x69 => ed_con) (fun _ => (fun _ _ _ _ => trivial)) (by intros; rfl) (fun x69 x70 l71 => (rk_le (by (first | exact LeE.refl _ | (unfold LeE; (repeat' (first | exact All2.nil | refine All2.cons ?_ ?_)) <;> first | exact trivial | exact rfl | exact Or.inl rfl | exact Or.inr (Or.inl rfl) | exact Or.inr (Or.inr (Or.inl rfl)) | exact Or.inr (Or.inr (Or.inr rfl)) | exact Or.inr ⟨rfl, rfl⟩ | exact Or.inr (Or.inl ⟨rfl, rfl⟩) | exact Or.inr (Or.inr ⟨rfl, rfl⟩)))) (hj24 (.list l71)))))) (fun t68 => (rt_sub (i := 0) (ed_bin0 (ed_ops0 (el_cons0 (ed_fz kdFo (es_bin0 fo_add (ed_fz kdFo (es_bin0 fo_add (ed_bin0 (ed_bin0 (ed_bor (i := 0) (by rfl)) (fun x72 => ed_con)) (fun x75 => ed_con)) (fun x78 => (ed_bin0 (ed_ops0 (el_cons0 (ed_bor (i := 2) (by rfl)) (fun x79 => el_nil))) (fun x83 => ed_con))))) (fun x88 => ed_con))) (fun x91 => el_nil))) (fun x95 => ed_con)) (fun _ _ _ _ => trivial) (by intros; rfl) (fun x98 => ed_con) (fun _ => (fun _ _ _ _ => trivial)) (by intros; rfl) (fun x98 x99 l100 => (rk_le (by (first | exact LeE.refl _ | (unfold LeE; (repeat' (first | exact All2.nil | refine All2.cons ?_ ?_)) <;> first | exact trivial | exact rfl | exact Or.inl rfl | exact Or.inr (Or.inl rfl) | exact Or.inr (Or.inr (Or.inl rfl)) | exact Or.inr (Or.inr (Or.inr rfl)) | exact Or.inr ⟨rfl, rfl⟩ | exact Or.inr (Or.inl ⟨rfl, rfl⟩) | exact Or.inr (Or.inr ⟨rfl, rfl⟩)))) (hj24 (.list l100)))))))))))))))) (fun t46 => (rt_skip (rk_le (by (first | exact LeE.refl _ | (unfold LeE; (repeat' (first | exact All2.nil | refine All2.cons ?_ ?_)) <;> first | exact trivial | exact rfl | exact Or.inl rfl | exact Or.inr (Or.inl rfl) | exact Or.inr (Or.inr (Or.inl rfl)) | exact Or.inr (Or.inr (Or.inr rfl)) | exact Or.inr ⟨rfl, rfl⟩ | exact Or.inr (Or.inl ⟨rfl, rfl⟩) | exact Or.inr (Or.inr ⟨rfl, rfl⟩)))) (hj24 v0)))))))))
theorem md__law_next (ds : List D) : Fr1 (m__law_next ds) (d__law_next ds) := match ds with
    | [v0, v1] => mdb__law_next v0 v1
    | [] => trivial
    | [_] => trivial
    | _ :: _ :: _ :: _ => trivial
def mb__law_same (r : List D → M (D)) (v0 v1 : D) : M (D) :=
  (((M.ok v1).bind fun x1 => (M.ok .none).bind fun x2 => (liftO (isNoneB x1 x2)).bind fun d3 => M.ok d3).bind fun t4 => if t4 = true then (((M.ok v0).bind fun x5 => (M.ok .none).bind fun x6 => (liftO ((opBD isNoneB) x5 x6)).bind fun d7 => M.ok d7).bind fun a8 => M.ok a8) else (((M.ok v1).bind fun x9 => (liftO (truD (.bool (instAny ["bool"] x9)))).bind fun d10 => M.ok d10).bind fun t11 => if t11 = true then (((M.ok v0).bind fun x12 => (liftO (truD (.bool (instAny ["bool"] x12)))).bind fun t17 => if t17 = true then ((M.ok v0).bind fun x13 => (M.ok v1).bind fun x14 => (liftO ((opBD eqB) x13 x14)).bind fun d15 => M.ok d15) else M.ok (.bool (instAny ["bool"] x12))).bind fun a18 => M.ok a18) else (((M.ok v1).bind fun x19 => (liftO (truD (.bool (instAny ["int"] x19)))).bind fun d20 => M.ok d20).bind fun t21 => if t21 = true then (((M.ok v0).bind fun x22 => (liftO (truD (.bool (instAny ["int"] x22)))).bind fun t32 => if t32 = true then (((M.ok v0).bind fun x23 => (liftO (truD (.bool (instAny ["bool"] x23)))).bind fun t24 => M.ok t24).bind fun x25 => (liftO (truD (.bool (!x25)))).bind fun t30 => if t30 = true then ((M.ok v0).bind fun x26 => (M.ok v1).bind fun x27 => (liftO ((opBD eqB) x26 x27)).bind fun d28 => M.ok d28) else M.ok (.bool (!x25))) else M.ok (.bool (instAny ["int"] x22))).bind fun a33 => M.ok a33) else (((M.ok v1).bind fun x34 => (liftO (truD (.bool (instAny ["str"] x34)))).bind fun d35 => M.ok d35).bind fun t36 => if t36 = true then (((M.ok v0).bind fun x37 => (liftO (truD (.bool (instAny ["str"] x37)))).bind fun t42 => if t42 = true then ((M.ok v0).bind fun x38 => (M.ok v1).bind fun x39 => (liftO ((opBD eqB) x38 x39)).bind fun d40 => M.ok d40) else M.ok (.bool (instAny ["str"] x37))).bind fun a43 => M.ok a43) else ((((M.ok v1).bind fun x44 => (liftO (truD (.bool (instAny ["tuple"] x44)))).bind fun d45 => M.ok d45).bind fun x46 => if x46 = true then (((M.ok v0).bind fun x47 => (liftO (truD (.bool (instAny ["tuple"] x47)))).bind fun d48 => M.ok d48).bind fun x49 => M.ok (!x49)) else M.ok false).bind fun t50 => if t50 = true then ((M.ok (.bool false)).bind fun a51 => M.ok a51) else ((((M.ok v1).bind fun x52 => (liftO (truD (.bool (instAny ["list"] x52)))).bind fun d53 => M.ok d53).bind fun x54 => if x54 = true then (((M.ok v0).bind fun x55 => (liftO (truD (.bool (instAny ["list"] x55)))).bind fun d56 => M.ok d56).bind fun x57 => M.ok (!x57)) else M.ok false).bind fun t58 => if t58 = true then ((M.ok (.bool false)).bind fun a59 => M.ok a59) else (((((M.ok v0).bind fun x60 => (M.ok []).bind fun x61 => M.ok (x60 :: x61)).bind fun x62 => (liftO (lenD x62)).bind fun d63 => M.ok d63).bind fun x64 => (((M.ok v1).bind fun x65 => (M.ok []).bind fun x66 => M.ok (x65 :: x66)).bind fun x67 => (liftO (lenD x67)).bind fun d68 => M.ok d68).bind fun x69 => (liftO (neB x64 x69)).bind fun d70 => M.ok d70).bind fun t71 => if t71 = true then ((M.ok (.bool false)).bind fun a72 => M.ok a72) else (((((M.ok v1).bind fun x73 => (M.ok []).bind fun x74 => M.ok (x73 :: x74)).bind fun x75 => (liftO (lenD x75)).bind fun d76 => M.ok d76).bind fun x77 => (rng1 x77).bind fun l78 => M.ok l78).bind fun l79 => (forM (fun (b118 : Unit) d119 => (M.ok ()).bind fun t120 => ((((((M.ok v0).bind fun x121 => (M.ok d119).bind fun x122 => (liftO (ixD x121 x122)).bind fun d123 => M.ok d123).bind fun x124 => (((M.ok v1).bind fun x125 => (M.ok d119).bind fun x126 => (liftO (ixD x125 x126)).bind fun d127 => M.ok d127).bind fun x128 => (M.ok []).bind fun x129 => M.ok (x128 :: x129)).bind fun x130 => M.ok (x124 :: x130)).bind fun x131 => (r x131).bind fun d132 => M.ok d132).bind fun x133 => (liftO (truD x133)).bind fun d134 => M.ok d134).bind fun t135 => if (!t135) = true then ((M.ok (.bool false)).bind fun a136 => M.ok (.rt a136)) else (M.ok (.nx ())))) l79 ()).bind (orRet (fun (b137 : Unit) => ((M.ok (.bool true)).bind fun a138 => M.ok a138)) id)))))))))
def mc__law_same (r : List D → M (D)) (ds : List D) : M (D) := match ds with
  | [v0, v1] => mb__law_same r v0 v1
  | _ => .err
def m__law_same : Nat → List D → M (D)
  | 0 => fun _ => .err
  | n + 1 => mc__law_same (m__law_same n)
theorem mdb__law_same {r : Fd} {mr : List D → M (D)} (ih : ∀ ds, Fr (mr ds) (r ds)) (v0 v1 : D) : Fr (mb__law_same mr v0 v1) (fnD 3 [] (b__law_same r) [v0, v1]) := fr_of (n := 3) (ds := [v0, v1]) (by delta b__law_same; exact (rt_seq (rt_if (ed_binB0 (ed_bor (i := 1) (by rfl)) (fun x1 => ed_con)) (fun _ _ _ _ => trivial) (fun t4 => (rt_ret0 rfl kdSh (es_sh (ed_bin0 (ed_bor (i := 0) (by rfl)) (fun x5 => ed_con))) (fun _ _ _ _ => trivial))) (fun t4 => (rt_skip (rk_of (rt_seq (rt_if (ed_tru0 (ed_isi (ed_bor (i := 1) (by rfl)))) (fun _ _ _ _ => trivial) (fun t11 => (rt_ret0 rfl kdSh (es_sh (ed_andVL (v := fun (q : D) => q) (ρ' := fun _ => [.sh v0, .sh v1, .em]) (ed_isi (ed_bor (i := 0) (by rfl))) (fun x12 => (ed_bin0 (ed_bor (i := 0) (by rfl)) (fun x13 => (ed_bor (i := 1) (by rfl))))) (by intros; rfl) (fun x12 => by (first | exact LeE.refl _ | (unfold LeE; (repeat' (first | exact All2.nil | refine All2.cons ?_ ?_)) <;> first | exact trivial | exact rfl | exact Or.inl rfl | exact Or.inr (Or.inl rfl) | exact Or.inr (Or.inr (Or.inl rfl)) | exact Or.inr (Or.inr (Or.inr rfl)) | exact Or.inr ⟨rfl, rfl⟩ | exact Or.inr (Or.inl ⟨rfl, rfl⟩) | exact Or.inr (Or.inr ⟨rfl, rfl⟩)))))) (fun _ _ _ _ => trivial))) (fun t11 => (rt_skip (rk_of (rt_seq (rt_if (ed_tru0 (ed_isi (ed_bor (i := 1) (by rfl)))) (fun _ _ _ _ => trivial) (fun t21 => (rt_ret0 rfl kdSh (es_sh (ed_andVL (v := fun (q : D) => q) (ρ' := fun _ => [.sh v0, .sh v1, .em]) (ed_isi (ed_bor (i := 0) (by rfl))) (fun x22 => (ed_andVL (v := fun (q : D) => q) (ρ' := fun _ => [.sh v0, .sh v1, .em]) (ed_notV0 (ed_isi (ed_bor (i := 0) (by rfl)))) (fun x25 => (ed_bin0 (ed_bor (i := 0) (by rfl)) (fun x26 => (ed_bor (i := 1) (by rfl))))) (by intros; rfl) (fun x25 => by (first | exact LeE.refl _ | (unfold LeE; (repeat' (first | exact All2.nil | refine All2.cons ?_ ?_)) <;> first | exact trivial | exact rfl | exact Or.inl rfl | exact Or.inr (Or.inl rfl) | exact Or.inr (Or.inr (Or.inl rfl)) | exact Or.inr (Or.inr (Or.inr rfl)) | exact Or.inr ⟨rfl, rfl⟩ | exact Or.inr (Or.inl ⟨rfl, rfl⟩) | exact Or.inr (Or.inr ⟨rfl, rfl⟩)))))) (by intros; rfl) (fun x22 => by (first | exact LeE.refl _ | (unfold LeE; (repeat' (first | exact All2.nil | refine All2.cons ?_ ?_)) <;> first | exact trivial | exact rfl | exact Or.inl rfl | exact Or.inr (Or.inl rfl) | exact Or.inr (Or.inr (Or.inl rfl)) | exact Or.inr (Or.inr (Or.inr rfl)) | exact Or.inr ⟨rfl, rfl⟩ | exact Or.inr (Or.inl ⟨rfl, rfl⟩) | exact Or.inr (Or.inr ⟨rfl, rfl⟩)))))) (fun _ _ _ _ => trivial))) (fun t21 => (rt_skip (rk_of (rt_seq (rt_if (ed_tru0 (ed_isi (ed_bor (i := 1) (by rfl)))) (fun _ _ _ _ => trivial) (fun t36 => (rt_ret0 rfl kdSh (es_sh (ed_andVL (v := fun (q : D) => q) (ρ' := fun _ => [.sh v0, .sh v1, .em]) (ed_isi (ed_bor (i := 0) (by rfl))) (fun x37 => (ed_bin0 (ed_bor (i := 0) (by rfl)) (fun x38 => (ed_bor (i := 1) (by rfl))))) (by intros; rfl) (fun x37 => by (first | exact LeE.refl _ | (unfold LeE; (repeat' (first | exact All2.nil | refine All2.cons ?_ ?_)) <;> first | exact trivial | exact rfl | exact Or.inl rfl | exact Or.inr (Or.inl rfl) | exact Or.inr (Or.inr (Or.inl rfl)) | exact Or.inr (Or.inr (Or.inr rfl)) | exact Or.inr ⟨rfl, rfl⟩ | exact Or.inr (Or.inl ⟨rfl, rfl⟩) | exact Or.inr (Or.inr ⟨rfl, rfl⟩)))))) (fun _ _ _ _ => trivial))) (fun t36 => (rt_skip (rk_of (rt_seq (rt_if (ed_andL (v := fun (q : Bool) => q) (ρ' := fun _ => [.sh v0, .sh v1, .em]) (ed_tru0 (ed_isi (ed_bor (i := 1) (by rfl)))) (fun x46 => (ed_to (v := fun (q : Bool) => q) (ρ' := fun _ => [.sh v0, .sh v1, .em]) (ed_not (ed_tru0 (ed_isi (ed_bor (i := 0) (by rfl))))) (by intros; rfl) (fun x49 => by (first | exact LeE.refl _ | (unfold LeE; (repeat' (first | exact All2.nil | refine All2.cons ?_ ?_)) <;> first | exact trivial | exact rfl | exact Or.inl rfl | exact Or.inr (Or.inl rfl) | exact Or.inr (Or.inr (Or.inl rfl)) | exact Or.inr (Or.inr (Or.inr rfl)) | exact Or.inr ⟨rfl, rfl⟩ | exact Or.inr (Or.inl ⟨rfl, rfl⟩) | exact Or.inr (Or.inr ⟨rfl, rfl⟩)))))) (by intros; rfl) (fun x46 => by (first | exact LeE.refl _ | (unfold LeE; (repeat' (first | exact All2.nil | refine All2.cons ?_ ?_)) <;> first | exact trivial | exact rfl | exact Or.inl rfl | exact Or.inr (Or.inl rfl) | exact Or.inr (Or.inr (Or.inl rfl)) | exact Or.inr (Or.inr (Or.inr rfl)) | exact Or.inr ⟨rfl, rfl⟩ | exact Or.inr (Or.inl ⟨rfl, rfl⟩) | exact Or.inr (Or.inr ⟨rfl, rfl⟩))))) (fun _ _ _ _ => trivial) (fun t50 => (rt_ret0 rfl kdSh (es_sh ed_con) (fun _ _ _ _ => trivial))) (fun t50 => (rt_skip (rk_of (rt_seq (rt_if (ed_andL (v := fun (q : Bool) => q) (ρ' := fun _ => [.sh v0, .sh v1, .em]) (ed_tru0 (ed_isi (ed_bor (i := 1) (by rfl)))) (fun x54 => (ed_to (v := fun (q : Bool) => q) (ρ' := fun _ => [.sh v0, .sh v1, .em]) (ed_not (ed_tru0 (ed_isi (ed_bor (i := 0) (by rfl))))) (by intros; rfl) (fun x57 => by (first | exact LeE.refl _ | (unfold LeE; (repeat' (first | exact All2.nil | refine All2.cons ?_ ?_)) <;> first | exact trivial | exact rfl | exact Or.inl rfl | exact Or.inr (Or.inl rfl) | exact Or.inr (Or.inr (Or.inl rfl)) | exact Or.inr (Or.inr (Or.inr rfl)) | exact Or.inr ⟨rfl, rfl⟩ | exact Or.inr (Or.inl ⟨rfl, rfl⟩) | exact Or.inr (Or.inr ⟨rfl, rfl⟩)))))) (by intros; rfl) (fun x54 => by (first | exact LeE.refl _ | (unfold LeE; (repeat' (first | exact All2.nil | refine All2.cons ?_ ?_)) <;> first | exact trivial | exact rfl | exact Or.inl rfl | exact Or.inr (Or.inl rfl) | exact Or.inr (Or.inr (Or.inl rfl)) | exact Or.inr (Or.inr (Or.inr rfl)) | exact Or.inr ⟨rfl, rfl⟩ | exact Or.inr (Or.inl ⟨rfl, rfl⟩) | exact Or.inr (Or.inr ⟨rfl, rfl⟩))))) (fun _ _ _ _ => trivial) (fun t58 => (rt_ret0 rfl kdSh (es_sh ed_con) (fun _ _ _ _ => trivial))) (fun t58 => (rt_skip (rk_of (rt_seq (rt_if (ed_binB0 (ed_ops0 (el_cons0 (ed_bor (i := 0) (by rfl)) (fun x60 => el_nil))) (fun x64 => (ed_ops0 (el_cons0 (ed_bor (i := 1) (by rfl)) (fun x65 => el_nil))))) (fun _ _ _ _ => trivial) (fun t71 => (rt_ret0 rfl kdSh (es_sh ed_con) (fun _ _ _ _ => trivial))) (fun t71 => (rt_skip (rk_of (rt_seq (rt_for (fun (l79 : List D) (b118 : Unit) => [.sh v0, .sh v1, .em]) (fun (l79 : List D) => ()) (ei_rng10 (ed_ops0 (el_cons0 (ed_bor (i := 1) (by rfl)) (fun x73 => el_nil)))) (fun _ _ _ _ => trivial) (fun l79 => by (first | exact LeE.refl _ | (unfold LeE; (repeat' (first | exact All2.nil | refine All2.cons ?_ ?_)) <;> first | exact trivial | exact rfl | exact Or.inl rfl | exact Or.inr (Or.inl rfl) | exact Or.inr (Or.inr (Or.inl rfl)) | exact Or.inr (Or.inr (Or.inr rfl)) | exact Or.inr ⟨rfl, rfl⟩ | exact Or.inr (Or.inl ⟨rfl, rfl⟩) | exact Or.inr (Or.inr ⟨rfl, rfl⟩)))) (by intros; rfl) (fun l79 b118 d119 => rt_gtT (gt_name (vs := [2]) (i := 2) (by decide) (by rfl)) (fun t120 => (rt_if (ed_not (ed_tru0 (ed_fz kdVa (es_call0 ih (el_cons0 (ed_bin0 (ed_bor (i := 0) (by rfl)) (fun x121 => (ed_bor (i := 2) (by rfl)))) (fun x124 => (el_cons0 (ed_bin0 (ed_bor (i := 1) (by rfl)) (fun x125 => (ed_bor (i := 2) (by rfl)))) (fun x128 => el_nil)))))))) (fun _ _ _ _ => trivial) (fun t135 => (rt_ret0 rfl kdSh (es_sh ed_con) (fun _ _ _ _ => trivial))) (fun t135 => (rt_skip (rk_nx (by (first | exact LeE.refl _ | (unfold LeE; (repeat' (first | exact All2.nil | refine All2.cons ?_ ?_)) <;> first | exact trivial | exact rfl | exact Or.inl rfl | exact Or.inr (Or.inl rfl) | exact Or.inr (Or.inr (Or.inl rfl)) | exact Or.inr (Or.inr (Or.inr rfl)) | exact Or.inr ⟨rfl, rfl⟩ | exact Or.inr (Or.inl ⟨rfl, rfl⟩) | exact Or.inr (Or.inr ⟨rfl, rfl⟩)))))))))) (fun l79 b137 => (rk_of (rt_ret0 rfl kdSh (es_sh ed_con) (fun _ _ _ _ => trivial))))))))))))))))))))))))))))))))))))))))))
theorem md__law_same : ∀ (n : Nat) (ds : List D), Fr (m__law_same n ds) (d__law_same n ds)
  | 0, _ => trivial
  | n + 1, ds => match ds with
    | [v0, v1] => mdb__law_same (md__law_same n) v0 v1
    | [] => trivial
    | [_] => trivial
    | _ :: _ :: _ :: _ => trivial
def mb__law_changed (r : List D → M (D × D)) (v0 v1 : D) : M (D × D) :=
  (((M.ok v1).bind fun x1 => (liftO (truD (.bool (instAny ["bool"] x1)))).bind fun d2 => M.ok d2).bind fun t3 => if t3 = true then (((((M.ok v1).bind fun x4 => (liftO (truD x4)).bind fun t5 => M.ok t5).bind fun x6 => ((((M.ok v1).bind fun x7 => (M.ok []).bind fun x8 => M.ok (x7 :: x8)).bind fun x9 => (liftO (intD x9)).bind fun d10 => M.ok d10).bind fun x11 => (M.ok []).bind fun x12 => M.ok (x11 :: x12)).bind fun x13 => M.ok ((.bool (!x6)) :: x13)).bind fun x14 => (((M.ok (.int 2)).bind fun x15 => (M.ok []).bind fun x16 => M.ok (x15 :: x16)).bind fun x17 => (m__law_next (v0 :: x17)).bind fun r18 => M.ok r18).bind fun x19 => (liftO (ixD (.list x14) x19.1)).bind fun d20 => M.ok (d20, x19.2)).bind fun a21 => M.ok (a21.1, a21.2)) else ((((M.ok v1).bind fun x22 => (M.ok .none).bind fun x23 => (liftO (isNoneB x22 x23)).bind fun d24 => M.ok d24).bind fun x25 => if x25 = true then M.ok true else ((M.ok v1).bind fun x26 => (liftO (truD (.bool (instAny ["int"] x26)))).bind fun d27 => M.ok d27)).bind fun t29 => if t29 = true then ((((((M.ok v1).bind fun x30 => (liftO (truD x30)).bind fun t32 => if t32 = true then M.ok x30 else (M.ok (.int 0))).bind fun x33 => (M.ok (.int 1)).bind fun x34 => (liftS (addS x33 x34)).bind fun d35 => M.ok d35).bind fun x36 => ((((M.ok v1).bind fun x37 => (liftO (truD x37)).bind fun t39 => if t39 = true then M.ok x37 else (M.ok (.int 0))).bind fun x40 => (M.ok (.int 1)).bind fun x41 => (liftO (subD x40 x41)).bind fun d42 => M.ok d42).bind fun x43 => ((M.ok (.int 0)).bind fun x44 => ((M.ok .none).bind fun x45 => (((M.ok v1).bind fun x46 => (M.ok (.int 1)).bind fun x47 => (liftO ((opBD eqB) x46 x47)).bind fun d48 => M.ok d48).bind fun x49 => ((((M.ok v1).bind fun x50 => (M.ok []).bind fun x51 => M.ok (x50 :: x51)).bind fun x52 => (liftO (strD x52)).bind fun d53 => M.ok d53).bind fun x54 => (((M.ok (.int 2)).bind fun x55 => ((M.ok v1).bind fun x56 => (liftO (truD x56)).bind fun t58 => if t58 = true then M.ok x56 else (M.ok (.int 1))).bind fun x59 => (liftO (mulD x55 x59)).bind fun d60 => M.ok d60).bind fun x61 => (M.ok []).bind fun x62 => M.ok (x61 :: x62)).bind fun x63 => M.ok (x54 :: x63)).bind fun x64 => M.ok (x49 :: x64)).bind fun x65 => M.ok (x45 :: x65)).bind fun x66 => M.ok (x44 :: x66)).bind fun x67 => M.ok (x43 :: x67)).bind fun x68 => M.ok (x36 :: x68)).bind fun x69 => (((M.ok (.int 7)).bind fun x70 => (M.ok []).bind fun x71 => M.ok (x70 :: x71)).bind fun x72 => (m__law_next (v0 :: x72)).bind fun r73 => M.ok r73).bind fun x74 => (liftO (ixD (.list x69) x74.1)).bind fun d75 => M.ok (d75, x74.2)).bind fun a76 => M.ok (a76.1, a76.2)) else (((M.ok v1).bind fun x77 => (liftO (truD (.bool (instAny ["str"] x77)))).bind fun d78 => M.ok d78).bind fun t79 => if t79 = true then ((((M.ok v1).bind fun x80 => ((M.ok (.int 1)).bind fun x81 => (intM x81).bind fun i82 => M.ok i82).bind fun x83 => (M.ok ()).bind fun x84 => (liftS (cutF x80 (some x83) none)).bind fun d85 => M.ok d85).bind fun x86 => (((M.ok v1).bind fun x87 => (M.ok (.str "a")).bind fun x88 => (liftS (addS x87 x88)).bind fun d89 => M.ok d89).bind fun x90 => (((M.ok v1).bind fun x91 => (liftS (revF x91)).bind fun d92 => M.ok d92).bind fun x93 => (((M.ok (.str "b")).bind fun x94 => (M.ok v1).bind fun x95 => (liftS (addS x94 x95)).bind fun d96 => M.ok d96).bind fun x97 => ((M.ok (.str "")).bind fun x98 => (((M.ok v1).bind fun x99 => (M.ok ()).bind fun x100 => (((M.ok (.int 1)).bind fun x101 => (liftO (negD x101)).bind fun d102 => M.ok d102).bind fun x103 => (intM x103).bind fun i104 => M.ok i104).bind fun x105 => (liftS (cutF x99 none (some x105))).bind fun d106 => M.ok d106).bind fun x107 => ((M.ok (.str "left")).bind fun x108 => ((M.ok (.int 3)).bind fun x109 => ((M.ok (.str "in")).bind fun x110 => (M.ok []).bind fun x111 => M.ok (x110 :: x111)).bind fun x112 => M.ok (x109 :: x112)).bind fun x113 => M.ok (x108 :: x113)).bind fun x114 => M.ok (x107 :: x114)).bind fun x115 => M.ok (x98 :: x115)).bind fun x116 => M.ok (x97 :: x116)).bind fun x117 => M.ok (x93 :: x117)).bind fun x118 => M.ok (x90 :: x118)).bind fun x119 => M.ok (x86 :: x119)).bind fun a120 => (((M.ok (.list a120)).bind fun x121 => (((((M.ok (.list a120)).bind fun x122 => (M.ok []).bind fun x123 => M.ok (x122 :: x123)).bind fun x124 => (liftO (lenD x124)).bind fun d125 => M.ok d125).bind fun x126 => (M.ok []).bind fun x127 => M.ok (x126 :: x127)).bind fun x128 => (m__law_next (v0 :: x128)).bind fun r129 => M.ok r129).bind fun x130 => (liftO (ixD x121 x130.1)).bind fun d131 => M.ok (d131, x130.2)).bind fun a132 => M.ok (a132.1, a132.2))) else ((((M.ok v1).bind fun x133 => (liftO (truD (.bool (instAny ["tuple"] x133)))).bind fun d134 => M.ok d134).bind fun x135 => if x135 = true then ((((M.ok v1).bind fun x136 => (M.ok []).bind fun x137 => (liftO (neB x136 (.tuple x137))).bind fun d138 => M.ok d138).bind fun x139 => if x139 = true then (((((M.ok (.int 4)).bind fun x140 => (M.ok []).bind fun x141 => M.ok (x140 :: x141)).bind fun x142 => (m__law_next (v0 :: x142)).bind fun r143 => M.ok r143).bind fun x144 => (M.ok (.int 0)).bind fun x145 => (liftO (gtB x144.1 x145)).bind fun d146 => M.ok (d146, x144.2)).bind fun x147 => M.ok (x147.1, x147.2)) else M.ok (false, v0)).bind fun x148 => M.ok (x148.1, x148.2)) else M.ok (false, v0)).bind fun t149 => if t149.1 = true then ((((((M.ok v1).bind fun x150 => (M.ok []).bind fun x151 => M.ok (x150 :: x151)).bind fun x152 => (liftO (lenD x152)).bind fun d153 => M.ok d153).bind fun x154 => (M.ok []).bind fun x155 => M.ok (x154 :: x155)).bind fun x156 => (m__law_next (t149.2 :: x156)).bind fun r157 => M.ok r157).bind fun a158 => (((((M.ok v1).bind fun x159 => (M.ok ()).bind fun x160 => ((M.ok a158.1).bind fun x161 => (intM x161).bind fun i162 => M.ok i162).bind fun x163 => (liftS (cutF x159 none (some x163))).bind fun d164 => M.ok d164).bind fun x165 => (((((M.ok v1).bind fun x166 => (M.ok a158.1).bind fun x167 => (liftO (ixD x166 x167)).bind fun d168 => M.ok d168).bind fun x169 => (M.ok []).bind fun x170 => M.ok (x169 :: x170)).bind fun x171 => (r (a158.2 :: x171)).bind fun r172 => M.ok r172).bind fun x173 => (M.ok []).bind fun x174 => M.ok ((x173.1 :: x174), x173.2)).bind fun x175 => (liftS (addS x165 (.tuple x175.1))).bind fun d176 => M.ok (d176, x175.2)).bind fun x177 => ((M.ok v1).bind fun x178 => (((M.ok a158.1).bind fun x179 => (M.ok (.int 1)).bind fun x180 => (liftS (addS x179 x180)).bind fun d181 => M.ok d181).bind fun x182 => (intM x182).bind fun i183 => M.ok i183).bind fun x184 => (M.ok ()).bind fun x185 => (liftS (cutF x178 (some x184) none)).bind fun d186 => M.ok d186).bind fun x187 => (liftS (addS x177.1 x187)).bind fun d188 => M.ok (d188, x177.2)).bind fun a189 => M.ok (a189.1, a189.2))) else (((M.ok v1).bind fun x190 => (liftO (truD (.bool (instAny ["tuple"] x190)))).bind fun d191 => M.ok d191).bind fun t192 => if (!t192) = true then ((M.ok []).bind fun a193 => M.ok ((.tuple a193), t149.2)) else (((((((M.ok v1).bind fun x194 => (M.ok []).bind fun x195 => M.ok (x194 :: x195)).bind fun x196 => (liftO (lenD x196)).bind fun d197 => M.ok d197).bind fun x198 => (M.ok (.int 1)).bind fun x199 => (liftS (addS x198 x199)).bind fun d200 => M.ok d200).bind fun x201 => (M.ok []).bind fun x202 => M.ok (x201 :: x202)).bind fun x203 => (m__law_next (t149.2 :: x203)).bind fun r204 => M.ok r204).bind fun a205 => (((((((M.ok v1).bind fun x206 => (M.ok []).bind fun x207 => M.ok (x206 :: x207)).bind fun x208 => (liftO (lenD x208)).bind fun d209 => M.ok d209).bind fun x210 => (M.ok (.int 1)).bind fun x211 => (liftS (addS x210 x211)).bind fun d212 => M.ok d212).bind fun x213 => (M.ok []).bind fun x214 => M.ok (x213 :: x214)).bind fun x215 => (m__law_next (a205.2 :: x215)).bind fun r216 => M.ok r216).bind fun a217 => (((((M.ok v1).bind fun x218 => (M.ok ()).bind fun x219 => ((M.ok a205.1).bind fun x220 => (intM x220).bind fun i221 => M.ok i221).bind fun x222 => (liftS (cutF x218 none (some x222))).bind fun d223 => M.ok d223).bind fun x224 => ((M.ok v1).bind fun x225 => (((M.ok a205.1).bind fun x226 => (M.ok (.int 1)).bind fun x227 => (liftS (addS x226 x227)).bind fun d228 => M.ok d228).bind fun x229 => (intM x229).bind fun i230 => M.ok i230).bind fun x231 => (M.ok ()).bind fun x232 => (liftS (cutF x225 (some x231) none)).bind fun d233 => M.ok d233).bind fun x234 => (liftS (addS x224 x234)).bind fun d235 => M.ok d235).bind fun x236 => (((M.ok v1).bind fun x237 => ((M.ok v1).bind fun x238 => (M.ok ()).bind fun x239 => ((M.ok (.int 1)).bind fun x240 => (intM x240).bind fun i241 => M.ok i241).bind fun x242 => (liftS (cutF x238 none (some x242))).bind fun d243 => M.ok d243).bind fun x244 => (liftS (addS x237 x244)).bind fun d245 => M.ok d245).bind fun x246 => (((M.ok v1).bind fun x247 => (liftS (revF x247)).bind fun d248 => M.ok d248).bind fun x249 => ((((M.ok v1).bind fun x250 => ((M.ok a205.1).bind fun x251 => (intM x251).bind fun i252 => M.ok i252).bind fun x253 => (M.ok ()).bind fun x254 => (liftS (cutF x250 (some x253) none)).bind fun d255 => M.ok d255).bind fun x256 => ((M.ok v1).bind fun x257 => (M.ok ()).bind fun x258 => ((M.ok a205.1).bind fun x259 => (intM x259).bind fun i260 => M.ok i260).bind fun x261 => (liftS (cutF x257 none (some x261))).bind fun d262 => M.ok d262).bind fun x263 => (liftS (addS x256 x263)).bind fun d264 => M.ok d264).bind fun x265 => ((((M.ok v1).bind fun x266 => (M.ok []).bind fun x267 => M.ok (x266 :: x267)).bind fun x268 => (liftS (listF x268)).bind fun d269 => M.ok d269).bind fun x270 => (((M.ok v1).bind fun x271 => (M.ok ()).bind fun x272 => ((M.ok a205.1).bind fun x273 => (intM x273).bind fun i274 => M.ok i274).bind fun x275 => (liftS (cutF x271 none (some x275))).bind fun d276 => M.ok d276).bind fun x277 => ((M.ok []).bind fun x278 => (((M.ok v1).bind fun x279 => ((M.ok (.int 0)).bind fun x280 => (M.ok []).bind fun x281 => M.ok (x280 :: x281)).bind fun x282 => (liftS (addS x279 (.tuple x282))).bind fun d283 => M.ok d283).bind fun x284 => (M.ok []).bind fun x285 => M.ok (x284 :: x285)).bind fun x286 => M.ok ((.tuple x278) :: x286)).bind fun x287 => M.ok (x277 :: x287)).bind fun x288 => M.ok (x270 :: x288)).bind fun x289 => M.ok (x265 :: x289)).bind fun x290 => M.ok (x249 :: x290)).bind fun x291 => M.ok (x246 :: x291)).bind fun x292 => M.ok (x236 :: x292)).bind fun a293 => ((((M.ok a205.1).bind fun x306 => (M.ok a217.1).bind fun x307 => (liftO (ltB x306 x307)).bind fun t313 => if t313 = true then (((M.ok v1).bind fun x308 => (M.ok []).bind fun x309 => M.ok (x308 :: x309)).bind fun x310 => (liftO (lenD x310)).bind fun d311 => M.ok d311).bind fun x312 => (liftO (ltB x307 x312)).bind fun d314 => M.ok d314 else M.ok false).bind fun t315 => if t315 = true then (((M.ok (.list a293)).bind fun x316 => (((M.ok (.int 3)).bind fun x317 => (rng1 x317).bind fun l318 => M.ok l318).bind fun l319 => (lcE (fun d320 => (M.ok ()).bind fun t321 => ((((((M.ok v1).bind fun x323 => (M.ok ()).bind fun x324 => ((M.ok a205.1).bind fun x325 => (intM x325).bind fun i326 => M.ok i326).bind fun x327 => (liftS (cutF x323 none (some x327))).bind fun d328 => M.ok d328).bind fun x329 => ((M.ok v1).bind fun x330 => ((M.ok a217.1).bind fun x331 => (intM x331).bind fun i332 => M.ok i332).bind fun x333 => (((M.ok a217.1).bind fun x334 => (M.ok (.int 1)).bind fun x335 => (liftS (addS x334 x335)).bind fun d336 => M.ok d336).bind fun x337 => (intM x337).bind fun i338 => M.ok i338).bind fun x339 => (liftS (cutF x330 (some x333) (some x339))).bind fun d340 => M.ok d340).bind fun x341 => (liftS (addS x329 x341)).bind fun d342 => M.ok d342).bind fun x343 => ((M.ok v1).bind fun x344 => (((M.ok a205.1).bind fun x345 => (M.ok (.int 1)).bind fun x346 => (liftS (addS x345 x346)).bind fun d347 => M.ok d347).bind fun x348 => (intM x348).bind fun i349 => M.ok i349).bind fun x350 => ((M.ok a217.1).bind fun x351 => (intM x351).bind fun i352 => M.ok i352).bind fun x353 => (liftS (cutF x344 (some x350) (some x353))).bind fun d354 => M.ok d354).bind fun x355 => (liftS (addS x343 x355)).bind fun d356 => M.ok d356).bind fun x357 => ((M.ok v1).bind fun x358 => ((M.ok a205.1).bind fun x359 => (intM x359).bind fun i360 => M.ok i360).bind fun x361 => (((M.ok a205.1).bind fun x362 => (M.ok (.int 1)).bind fun x363 => (liftS (addS x362 x363)).bind fun d364 => M.ok d364).bind fun x365 => (intM x365).bind fun i366 => M.ok i366).bind fun x367 => (liftS (cutF x358 (some x361) (some x367))).bind fun d368 => M.ok d368).bind fun x369 => (liftS (addS x357 x369)).bind fun d370 => M.ok d370).bind fun x371 => ((M.ok v1).bind fun x372 => (((M.ok a217.1).bind fun x373 => (M.ok (.int 1)).bind fun x374 => (liftS (addS x373 x374)).bind fun d375 => M.ok d375).bind fun x376 => (intM x376).bind fun i377 => M.ok i377).bind fun x378 => (M.ok ()).bind fun x379 => (liftS (cutF x372 (some x378) none)).bind fun d380 => M.ok d380).bind fun x381 => (liftS (addS x371 x381)).bind fun d382 => M.ok d382).bind fun y383 => M.ok y383) l319).noX.bind fun r384 => M.ok r384).bind fun x385 => (liftS (addS x316 (.list x385))).bind fun d386 => M.ok d386).bind fun a387 => (M.ok a387)) else (M.ok (.list a293))).bind fun (s304 : D) => (((M.ok s304).bind fun x388 => (((((M.ok s304).bind fun x389 => (M.ok []).bind fun x390 => M.ok (x389 :: x390)).bind fun x391 => (liftO (lenD x391)).bind fun d392 => M.ok d392).bind fun x393 => (M.ok []).bind fun x394 => M.ok (x393 :: x394)).bind fun x395 => (m__law_next (a217.2 :: x395)).bind fun r396 => M.ok r396).bind fun x397 => (liftO (ixD x388 x397.1)).bind fun d398 => M.ok (d398, x397.2)).bind fun a399 => M.ok (a399.1, a399.2))))))))))).noX
def mc__law_changed (r : List D → M (D × D)) (ds : List D) : M (D × D) := match ds with
  | [v0, v1] => mb__law_changed r v0 v1
  | _ => .err
def m__law_changed : Nat → List D → M (D × D)
  | 0 => fun _ => .err
  | n + 1 => mc__law_changed (m__law_changed n)
theorem mdb__law_changed {r : Fd} {mr : List D → M (D × D)} (ih : ∀ ds, Fr1 (mr ds) (r ds)) (v0 v1 : D) : Fr1 (mb__law_changed mr v0 v1) (fnD 7 [0] (b__law_changed r) [v0, v1]) := fr1_of (n := 7) (d := v0) (ds := [v1]) (by delta b__law_changed; exact (rt_seq (rt_if (ed_tru0 (ed_isi (ed_bor (i := 1) (by rfl)))) (fun _ _ _ _ => trivial) (fun t3 => (rt_ret1 rfl (e := fun (a21 : D × D) => a21.2) kdSh (es_sh (ed_bin (v := fun (q : D × D) => q.1) (ρ' := fun (q : D × D) => [.rf q.2, .sh v1, .em, .em, .em, .em, .em]) (ed_fz kdFo (es_lst (el_cons0 (ed_notV0 (ed_bor (i := 1) (by rfl))) (fun x6 => (el_cons0 (ed_ops0 (el_cons0 (ed_bor (i := 1) (by rfl)) (fun x7 => el_nil))) (fun x11 => el_nil)))))) (fun x14 => (ed_fz kdVa (es_callR (i := 0) (w := fun (x17 : List D) => v0) (v := fun (q : D × D) => q.1) (ρ' := fun (q : D × D) => [.rf q.2, .sh v1, .em, .em, .em, .em, .em]) md__law_next (by rfl) (el_cons0 ed_con (fun x15 => el_nil)) (by intros; rfl) (by intros; exact ⟨rfl, rfl⟩)))) (by intros; exact ⟨rfl, rfl⟩))) (fun _ _ _ _ => trivial) (by intros; rfl))) (fun t3 => (rt_skip (rk_of (rt_seq (rt_if (ed_orL (v := fun (q : Bool) => q) (ρ' := fun _ => [.rf v0, .sh v1, .em, .em, .em, .em, .em]) (ed_binB0 (ed_bor (i := 1) (by rfl)) (fun x22 => ed_con)) (fun x25 => (ed_tru0 (ed_isi (ed_bor (i := 1) (by rfl))))) (by intros; rfl) (fun x25 => by (first | exact LeE.refl _ | (unfold LeE; (repeat' (first | exact All2.nil | refine All2.cons ?_ ?_)) <;> first | exact trivial | exact rfl | exact Or.inl rfl | exact Or.inr (Or.inl rfl) | exact Or.inr (Or.inr (Or.inl rfl)) | exact Or.inr (Or.inr (Or.inr rfl)) | exact Or.inr ⟨rfl, rfl⟩ | exact Or.inr (Or.inl ⟨rfl, rfl⟩) | exact Or.inr (Or.inr ⟨rfl, rfl⟩))))) (fun _ _ _ _ => trivial) (fun t29 => (rt_ret1 rfl (e := fun (a76 : D × D) => a76.2) kdSh (es_sh (ed_bin (v := fun (q : D × D) => q.1) (ρ' := fun (q : D × D) => [.rf q.2, .sh v1, .em, .em, .em, .em, .em]) (ed_fz kdFo (es_lst (el_cons0 (ed_fz kdFo (es_bin0 fo_add (ed_orVL (v := fun (q : D) => q) (ρ' := fun _ => [.rf v0, .sh v1, .em, .em, .em, .em, .em]) (ed_varS (i := 1) (by rfl)) (fun x30 => ed_con) (by intros; rfl) (fun x30 => by (first | exact LeE.refl _ | (unfold LeE; (repeat' (first | exact All2.nil | refine All2.cons ?_ ?_)) <;> first | exact trivial | exact rfl | exact Or.inl rfl | exact Or.inr (Or.inl rfl) | exact Or.inr (Or.inr (Or.inl rfl)) | exact Or.inr (Or.inr (Or.inr rfl)) | exact Or.inr ⟨rfl, rfl⟩ | exact Or.inr (Or.inl ⟨rfl, rfl⟩) | exact Or.inr (Or.inr ⟨rfl, rfl⟩))))) (fun x33 => ed_con))) (fun x36 => (el_cons0 (ed_bin0 (ed_orVL (v := fun (q : D) => q) (ρ' := fun _ => [.rf v0, .sh v1, .em, .em, .em, .em, .em]) (ed_varS (i := 1) (by rfl)) (fun x37 => ed_con) (by intros; rfl) (fun x37 => by (first | exact LeE.refl _ | (unfold LeE; (repeat' (first | exact All2.nil | refine All2.cons ?_ ?_)) <;> first | exact trivial | exact rfl | exact Or.inl rfl | exact Or.inr (Or.inl rfl) | exact Or.inr (Or.inr (Or.inl rfl)) | exact Or.inr (Or.inr (Or.inr rfl)) | exact Or.inr ⟨rfl, rfl⟩ | exact Or.inr (Or.inl ⟨rfl, rfl⟩) | exact Or.inr (Or.inr ⟨rfl, rfl⟩))))) (fun x40 => ed_con)) (fun x43 => (el_cons0 ed_con (fun x44 => (el_cons0 ed_con (fun x45 => (el_cons0 (ed_bin0 (ed_bor (i := 1) (by rfl)) (fun x46 => ed_con)) (fun x49 => (el_cons0 (ed_ops0 (el_cons0 (ed_bor (i := 1) (by rfl)) (fun x50 => el_nil))) (fun x54 => (el_cons0 (ed_bin0 ed_con (fun x55 => (ed_orVL (v := fun (q : D) => q) (ρ' := fun _ => [.rf v0, .sh v1, .em, .em, .em, .em, .em]) (ed_varS (i := 1) (by rfl)) (fun x56 => ed_con) (by intros; rfl) (fun x56 => by (first | exact LeE.refl _ | (unfold LeE; (repeat' (first | exact All2.nil | refine All2.cons ?_ ?_)) <;> first | exact trivial | exact rfl | exact Or.inl rfl | exact Or.inr (Or.inl rfl) | exact Or.inr (Or.inr (Or.inl rfl)) | exact Or.inr (Or.inr (Or.inr rfl)) | exact Or.inr ⟨rfl, rfl⟩ | exact Or.inr (Or.inl ⟨rfl, rfl⟩) | exact Or.inr (Or.inr ⟨rfl, rfl⟩))))))) (fun x61 => el_nil)))))))))))))))) (fun x69 => (ed_fz kdVa (es_callR (i := 0) (w := fun (x72 : List D) => v0) (v := fun (q : D × D) => q.1) (ρ' := fun (q : D × D) => [.rf q.2, .sh v1, .em, .em, .em, .em, .em]) md__law_next (by rfl) (el_cons0 ed_con (fun x70 => el_nil)) (by intros; rfl) (by intros; exact ⟨rfl, rfl⟩)))) (by intros; exact ⟨rfl, rfl⟩))) (fun _ _ _ _ => trivial) (by intros; rfl))) (fun t29 => (rt_skip (rk_of (rt_seq (rt_if (ed_tru0 (ed_isi (ed_bor (i := 1) (by rfl)))) (fun _ _ _ _ => trivial) (fun t79 => (rt_seq (rt_asg (i := 5) kdFo (es_lst (el_cons0 (ed_fz kdFo (es_slc0 fo_cut (ed_bor (i := 1) (by rfl)) (fun x80 => (eo_at0 ed_con)) (fun x80 x83 => eo_no))) (fun x86 => (el_cons0 (ed_fz kdFo (es_bin0 fo_add (ed_bor (i := 1) (by rfl)) (fun x87 => ed_con))) (fun x90 => (el_cons0 (ed_fz kdFo (es_un0 fo_rev (ed_bor (i := 1) (by rfl)))) (fun x93 => (el_cons0 (ed_fz kdFo (es_bin0 fo_add ed_con (fun x94 => (ed_bor (i := 1) (by rfl))))) (fun x97 => (el_cons0 ed_con (fun x98 => (el_cons0 (ed_fz kdFo (es_slc0 fo_cut (ed_bor (i := 1) (by rfl)) (fun x99 => eo_no) (fun x99 x100 => (eo_at0 (ed_un0 ed_con))))) (fun x107 => (el_cons0 ed_con (fun x108 => (el_cons0 ed_con (fun x109 => (el_cons0 ed_con (fun x110 => el_nil))))))))))))))))))) (fun _ _ _ _ => trivial) (by intros; rfl) (fun a120 => (rk_of (rt_ret1 rfl (e := fun (a132 : D × D) => a132.2) kdSh (es_sh (ed_bin (v := fun (q : D × D) => q.1) (ρ' := fun (q : D × D) => [.rf q.2, .sh v1, .em, .em, .em, .sh (.list a120), .em]) (ed_var (i := 5) (by rfl)) (fun x121 => (ed_fz kdVa (es_callR (i := 0) (w := fun (x128 : List D) => v0) (v := fun (q : D × D) => q.1) (ρ' := fun (q : D × D) => [.rf q.2, .sh v1, .em, .em, .em, .sh (.list a120), .em]) md__law_next (by rfl) (el_cons0 (ed_ops0 (el_cons0 (ed_bor (i := 5) (by rfl)) (fun x122 => el_nil))) (fun x126 => el_nil)) (by intros; rfl) (by intros; exact ⟨rfl, rfl⟩)))) (by intros; exact ⟨rfl, rfl⟩))) (fun _ _ _ _ => trivial) (by intros; rfl))))))) (fun t79 => (rt_skip (rk_of (rt_seq (rt_if (ed_andL (v := fun (q : Bool × D) => q.1) (ρ' := fun (q : Bool × D) => [.rf q.2, .sh v1, .em, .em, .em, .em, .em]) (ed_tru0 (ed_isi (ed_bor (i := 1) (by rfl)))) (fun x135 => (ed_to (v := fun (q : Bool × D) => q.1) (ρ' := fun (q : Bool × D) => [.rf q.2, .sh v1, .em, .em, .em, .em, .em]) (ed_andL (v := fun (q : Bool × D) => q.1) (ρ' := fun (q : Bool × D) => [.rf q.2, .sh v1, .em, .em, .em, .em, .em]) (ed_binB0 (ed_bor (i := 1) (by rfl)) (fun x136 => (ed_tup el_nil))) (fun x139 => (ed_to (v := fun (q : Bool × D) => q.1) (ρ' := fun (q : Bool × D) => [.rf q.2, .sh v1, .em, .em, .em, .em, .em]) (ed_binB (v := fun (q : Bool × D) => q.1) (ρ' := fun (q : Bool × D) => [.rf q.2, .sh v1, .em, .em, .em, .em, .em]) (ed_fz kdVa (es_callR (i := 0) (w := fun (x142 : List D) => v0) (v := fun (q : D × D) => q.1) (ρ' := fun (q : D × D) => [.rf q.2, .sh v1, .em, .em, .em, .em, .em]) md__law_next (by rfl) (el_cons0 ed_con (fun x140 => el_nil)) (by intros; rfl) (by intros; exact ⟨rfl, rfl⟩))) (fun x144 => ed_con) (by intros; exact ⟨rfl, rfl⟩)) (by intros; rfl) (fun x147 => by (first | exact LeE.refl _ | (unfold LeE; (repeat' (first | exact All2.nil | refine All2.cons ?_ ?_)) <;> first | exact trivial | exact rfl | exact Or.inl rfl | exact Or.inr (Or.inl rfl) | exact Or.inr (Or.inr (Or.inl rfl)) | exact Or.inr (Or.inr (Or.inr rfl)) | exact Or.inr ⟨rfl, rfl⟩ | exact Or.inr (Or.inl ⟨rfl, rfl⟩) | exact Or.inr (Or.inr ⟨rfl, rfl⟩)))))) (by intros; rfl) (fun x139 => by (first | exact LeE.refl _ | (unfold LeE; (repeat' (first | exact All2.nil | refine All2.cons ?_ ?_)) <;> first | exact trivial | exact rfl | exact Or.inl rfl | exact Or.inr (Or.inl rfl) | exact Or.inr (Or.inr (Or.inl rfl)) | exact Or.inr (Or.inr (Or.inr rfl)) | exact Or.inr ⟨rfl, rfl⟩ | exact Or.inr (Or.inl ⟨rfl, rfl⟩) | exact Or.inr (Or.inr ⟨rfl, rfl⟩))))) (by intros; rfl) (fun x148 => by (first | exact LeE.refl _ | (unfold LeE; (repeat' (first | exact All2.nil | refine All2.cons ?_ ?_)) <;> first | exact trivial | exact rfl | exact Or.inl rfl | exact Or.inr (Or.inl rfl) | exact Or.inr (Or.inr (Or.inl rfl)) | exact Or.inr (Or.inr (Or.inr rfl)) | exact Or.inr ⟨rfl, rfl⟩ | exact Or.inr (Or.inl ⟨rfl, rfl⟩) | exact Or.inr (Or.inr ⟨rfl, rfl⟩)))))) (by intros; rfl) (fun x135 => by (first | exact LeE.refl _ | (unfold LeE; (repeat' (first | exact All2.nil | refine All2.cons ?_ ?_)) <;> first | exact trivial | exact rfl | exact Or.inl rfl | exact Or.inr (Or.inl rfl) | exact Or.inr (Or.inr (Or.inl rfl)) | exact Or.inr (Or.inr (Or.inr rfl)) | exact Or.inr ⟨rfl, rfl⟩ | exact Or.inr (Or.inl ⟨rfl, rfl⟩) | exact Or.inr (Or.inr ⟨rfl, rfl⟩))))) (fun _ _ _ _ => trivial) (fun t149 => (rt_seq (rt_asg (i := 2) kdVa (es_callR (i := 0) (w := fun (x156 : List D) => t149.2) (v := fun (q : D × D) => q.1) (ρ' := fun (q : D × D) => [.rf q.2, .sh v1, .em, .em, .em, .em, .em]) md__law_next (by rfl) (el_cons0 (ed_ops0 (el_cons0 (ed_bor (i := 1) (by rfl)) (fun x150 => el_nil))) (fun x154 => el_nil)) (by intros; rfl) (by intros; exact ⟨rfl, rfl⟩)) (fun _ _ _ _ => trivial) (by intros; rfl) (fun a158 => (rk_of (rt_ret1 rfl (e := fun (a189 : D × D) => a189.2) kdFo (es_bin (v := fun (q : D × D) => q.1) (ρ' := fun (q : D × D) => [.rf q.2, .sh v1, .va a158.1, .em, .em, .em, .em]) fo_add (ed_fz kdFo (es_bin (v := fun (q : D × D) => q.1) (ρ' := fun (q : D × D) => [.rf q.2, .sh v1, .va a158.1, .em, .em, .em, .em]) fo_add (ed_fz kdFo (es_slc0 fo_cut (ed_bor (i := 1) (by rfl)) (fun x159 => eo_no) (fun x159 x160 => (eo_at0 (ed_bor (i := 2) (by rfl)))))) (fun x165 => (ed_tup (el_cons (v := fun (q : List D × D) => q.1) (ρ' := fun (q : List D × D) => [.rf q.2, .sh v1, .va a158.1, .em, .em, .em, .em]) (ed_fz kdVa (es_callR (i := 0) (w := fun (x171 : List D) => a158.2) (v := fun (q : D × D) => q.1) (ρ' := fun (q : D × D) => [.rf q.2, .sh v1, .va a158.1, .em, .em, .em, .em]) ih (by rfl) (el_cons0 (ed_bin0 (ed_bor (i := 1) (by rfl)) (fun x166 => (ed_bor (i := 2) (by rfl)))) (fun x169 => el_nil)) (by intros; rfl) (by intros; exact ⟨rfl, rfl⟩))) (fun x173 => el_nil) (by intros; exact ⟨rfl, rfl⟩)))) (by intros; exact ⟨rfl, rfl⟩))) (fun x177 => (ed_fz kdFo (es_slc0 fo_cut (ed_bor (i := 1) (by rfl)) (fun x178 => (eo_at0 (ed_fz kdFo (es_bin0 fo_add (ed_bor (i := 2) (by rfl)) (fun x179 => ed_con))))) (fun x178 x184 => eo_no)))) (by intros; exact ⟨rfl, rfl⟩)) (fun _ _ _ _ => trivial) (by intros; rfl))))))) (fun t149 => (rt_skip (rk_of (rt_seq (rt_if (ed_not (ed_tru0 (ed_isi (ed_bor (i := 1) (by rfl))))) (fun _ _ _ _ => trivial) (fun t192 => (rt_ret1 rfl (e := fun (a193 : List D) => t149.2) kdSh (es_sh (ed_tup el_nil)) (fun _ _ _ _ => trivial) (by intros; rfl))) (fun t192 => (rt_skip (rk_of (rt_seq (rt_asg (i := 2) kdVa (es_callR (i := 0) (w := fun (x203 : List D) => t149.2) (v := fun (q : D × D) => q.1) (ρ' := fun (q : D × D) => [.rf q.2, .sh v1, .em, .em, .em, .em, .em]) md__law_next (by rfl) (el_cons0 (ed_fz kdFo (es_bin0 fo_add (ed_ops0 (el_cons0 (ed_bor (i := 1) (by rfl)) (fun x194 => el_nil))) (fun x198 => ed_con))) (fun x201 => el_nil)) (by intros; rfl) (by intros; exact ⟨rfl, rfl⟩)) (fun _ _ _ _ => trivial) (by intros; rfl) (fun a205 => (rk_of (rt_seq (rt_asg (i := 3) kdVa (es_callR (i := 0) (w := fun (x215 : List D) => a205.2) (v := fun (q : D × D) => q.1) (ρ' := fun (q : D × D) => [.rf q.2, .sh v1, .va a205.1, .em, .em, .em, .em]) md__law_next (by rfl) (el_cons0 (ed_fz kdFo (es_bin0 fo_add (ed_ops0 (el_cons0 (ed_bor (i := 1) (by rfl)) (fun x206 => el_nil))) (fun x210 => ed_con))) (fun x213 => el_nil)) (by intros; rfl) (by intros; exact ⟨rfl, rfl⟩)) (fun _ _ _ _ => trivial) (by intros; rfl) (fun a217 => (rk_of (rt_seq (rt_asg (i := 4) kdFo (es_lst (el_cons0 (ed_fz kdFo (es_bin0 fo_add (ed_fz kdFo (es_slc0 fo_cut (ed_bor (i := 1) (by rfl)) (fun x218 => eo_no) (fun x218 x219 => (eo_at0 (ed_bor (i := 2) (by rfl)))))) (fun x224 => (ed_fz kdFo (es_slc0 fo_cut (ed_bor (i := 1) (by rfl)) (fun x225 => (eo_at0 (ed_fz kdFo (es_bin0 fo_add (ed_bor (i := 2) (by rfl)) (fun x226 => ed_con))))) (fun x225 x231 => eo_no)))))) (fun x236 => (el_cons0 (ed_fz kdFo (es_bin0 fo_add (ed_bor (i := 1) (by rfl)) (fun x237 => (ed_fz kdFo (es_slc0 fo_cut (ed_bor (i := 1) (by rfl)) (fun x238 => eo_no) (fun x238 x239 => (eo_at0 ed_con))))))) (fun x246 => (el_cons0 (ed_fz kdFo (es_un0 fo_rev (ed_bor (i := 1) (by rfl)))) (fun x249 => (el_cons0 (ed_fz kdFo (es_bin0 fo_add (ed_fz kdFo (es_slc0 fo_cut (ed_bor (i := 1) (by rfl)) (fun x250 => (eo_at0 (ed_bor (i := 2) (by rfl)))) (fun x250 x253 => eo_no))) (fun x256 => (ed_fz kdFo (es_slc0 fo_cut (ed_bor (i := 1) (by rfl)) (fun x257 => eo_no) (fun x257 x258 => (eo_at0 (ed_bor (i := 2) (by rfl))))))))) (fun x265 => (el_cons0 (ed_fz kdFo (es_ops0 fo_listF (el_cons0 (ed_bor (i := 1) (by rfl)) (fun x266 => el_nil)))) (fun x270 => (el_cons0 (ed_fz kdFo (es_slc0 fo_cut (ed_bor (i := 1) (by rfl)) (fun x271 => eo_no) (fun x271 x272 => (eo_at0 (ed_bor (i := 2) (by rfl)))))) (fun x277 => (el_cons0 (ed_tup el_nil) (fun x278 => (el_cons0 (ed_fz kdFo (es_bin0 fo_add (ed_bor (i := 1) (by rfl)) (fun x279 => (ed_tup (el_cons0 ed_con (fun x280 => el_nil)))))) (fun x284 => el_nil))))))))))))))))) (fun _ _ _ _ => trivial) (by intros; rfl) (fun a293 => (rk_of (rt_seq (rt_join (S := D) (fun s304 => [.rf a217.2, .sh v1, .va a205.1, .va a217.1, .fo s304, .em, .em]) (fun s304 => (rk_of (rt_ret1 rfl (e := fun (a399 : D × D) => a399.2) kdSh (es_sh (ed_bin (v := fun (q : D × D) => q.1) (ρ' := fun (q : D × D) => [.rf q.2, .sh v1, .va a205.1, .va a217.1, .sh s304, .em, .em]) (ed_var (i := 4) (by rfl)) (fun x388 => (ed_fz kdVa (es_callR (i := 0) (w := fun (x395 : List D) => a217.2) (v := fun (q : D × D) => q.1) (ρ' := fun (q : D × D) => [.rf q.2, .sh v1, .va a205.1, .va a217.1, .sh s304, .em, .em]) md__law_next (by rfl) (el_cons0 (ed_ops0 (el_cons0 (ed_bor (i := 4) (by rfl)) (fun x389 => el_nil))) (fun x393 => el_nil)) (by intros; rfl) (by intros; exact ⟨rfl, rfl⟩)))) (by intros; exact ⟨rfl, rfl⟩))) (fun _ _ _ _ => trivial) (by intros; rfl)))) (fun hj305 => (rt_if (ed_chn (v := fun (q : Bool) => q) (ρ' := fun _ => [.rf a217.2, .sh v1, .va a205.1, .va a217.1, .fo (.list a293), .em, .em]) (ed_bor (i := 2) (by rfl)) (fun x306 => (ed_bor (i := 3) (by rfl))) (fun x306 x307 => (ed_ops0 (el_cons0 (ed_bor (i := 1) (by rfl)) (fun x308 => el_nil)))) (by intros; exact ⟨rfl, rfl⟩) (by intros; exact ⟨rfl, rfl⟩)) (fun _ _ _ _ => trivial) (fun t315 => (rt_asg (i := 4) kdFo (es_bin0 fo_add (ed_var (i := 4) (by rfl)) (fun x316 => (ed_fz kdFo (es_lcE2 (vs := [6]) (v := fun (q : List D) => .list q) (ρ' := fun _ => [.rf a217.2, .sh v1, .va a205.1, .va a217.1, .sh (.list a293), .em, .em]) (ei_rng10 ed_con) (by intros; rfl) (by intros; rfl) (fun l319 d320 => (gt_name (vs := [6]) (i := 6) (by decide) (by rfl))) (fun l319 d320 t321 => (ed_fz kdFo (es_bin0 fo_add (ed_fz kdFo (es_bin0 fo_add (ed_fz kdFo (es_bin0 fo_add (ed_fz kdFo (es_bin0 fo_add (ed_fz kdFo (es_slc0 fo_cut (ed_bor (i := 1) (by rfl)) (fun x323 => eo_no) (fun x323 x324 => (eo_at0 (ed_bor (i := 2) (by rfl)))))) (fun x329 => (ed_fz kdFo (es_slc0 fo_cut (ed_bor (i := 1) (by rfl)) (fun x330 => (eo_at0 (ed_bor (i := 3) (by rfl)))) (fun x330 x333 => (eo_at0 (ed_fz kdFo (es_bin0 fo_add (ed_bor (i := 3) (by rfl)) (fun x334 => ed_con)))))))))) (fun x343 => (ed_fz kdFo (es_slc0 fo_cut (ed_bor (i := 1) (by rfl)) (fun x344 => (eo_at0 (ed_fz kdFo (es_bin0 fo_add (ed_bor (i := 2) (by rfl)) (fun x345 => ed_con))))) (fun x344 x350 => (eo_at0 (ed_bor (i := 3) (by rfl))))))))) (fun x357 => (ed_fz kdFo (es_slc0 fo_cut (ed_bor (i := 1) (by rfl)) (fun x358 => (eo_at0 (ed_bor (i := 2) (by rfl)))) (fun x358 x361 => (eo_at0 (ed_fz kdFo (es_bin0 fo_add (ed_bor (i := 2) (by rfl)) (fun x362 => ed_con)))))))))) (fun x371 => (ed_fz kdFo (es_slc0 fo_cut (ed_bor (i := 1) (by rfl)) (fun x372 => (eo_at0 (ed_fz kdFo (es_bin0 fo_add (ed_bor (i := 3) (by rfl)) (fun x373 => ed_con))))) (fun x372 x378 => eo_no))))))) (by intros; rfl) (by intros; exact ⟨rfl, rfl⟩))))) (fun _ _ _ _ => trivial) (by intros; rfl) (fun a387 => (rk_le (by (first | exact LeE.refl _ | (unfold LeE; (repeat' (first | exact All2.nil | refine All2.cons ?_ ?_)) <;> first | exact trivial | exact rfl | exact Or.inl rfl | exact Or.inr (Or.inl rfl) | exact Or.inr (Or.inr (Or.inl rfl)) | exact Or.inr (Or.inr (Or.inr rfl)) | exact Or.inr ⟨rfl, rfl⟩ | exact Or.inr (Or.inl ⟨rfl, rfl⟩) | exact Or.inr (Or.inr ⟨rfl, rfl⟩)))) (hj305 a387))))) (fun t315 => (rt_skip (rk_le (by (first | exact LeE.refl _ | (unfold LeE; (repeat' (first | exact All2.nil | refine All2.cons ?_ ?_)) <;> first | exact trivial | exact rfl | exact Or.inl rfl | exact Or.inr (Or.inl rfl) | exact Or.inr (Or.inr (Or.inl rfl)) | exact Or.inr (Or.inr (Or.inr rfl)) | exact Or.inr ⟨rfl, rfl⟩ | exact Or.inr (Or.inl ⟨rfl, rfl⟩) | exact Or.inr (Or.inr ⟨rfl, rfl⟩)))) (hj305 (.list a293)))))))))))))))))))))))))))))))))))))))))))))))
theorem md__law_changed : ∀ (n : Nat) (ds : List D), Fr1 (m__law_changed n ds) (d__law_changed n ds)
  | 0, _ => trivial
  | n + 1, ds => match ds with
    | [v0, v1] => mdb__law_changed (md__law_changed n) v0 v1
    | [] => trivial
    | [_] => trivial
    | _ :: _ :: _ :: _ => trivial
def mb__law_ints (r : List D → M (D)) (v0 : D) : M (D) :=
  ((((M.ok v0).bind fun x1 => (liftO (truD (.bool (instAny ["bool"] x1)))).bind fun d2 => M.ok d2).bind fun x3 => if x3 = true then M.ok true else (((M.ok v0).bind fun x4 => (liftO (truD (.bool (instAny ["int", "tuple"] x4)))).bind fun d5 => M.ok d5).bind fun x6 => M.ok (!x6))).bind fun t7 => if t7 = true then ((M.ok []).bind fun a8 => M.ok (.list a8)) else (((M.ok v0).bind fun x9 => (liftO (truD (.bool (instAny ["int"] x9)))).bind fun d10 => M.ok d10).bind fun t11 => if t11 = true then (((M.ok v0).bind fun x12 => (M.ok []).bind fun x13 => M.ok (x12 :: x13)).bind fun a14 => M.ok (.list a14)) else ((M.ok []).bind fun a15 => (((M.ok v0).bind fun x16 => (itM x16).bind fun l17 => M.ok l17).bind fun l18 => (foldM (fun (b63 : D) d64 => (M.ok ()).bind fun t65 => (((M.ok b63).bind fun x66 => (((((M.ok d64).bind fun x67 => (M.ok []).bind fun x68 => M.ok (x67 :: x68)).bind fun x69 => (r x69).bind fun d70 => M.ok d70).bind fun x71 => (itM x71).bind fun l72 => M.ok l72).bind fun l73 => (lcF (fun d74 => (M.ok ()).bind fun t75 => ((M.ok d74).bind fun x76 => (M.ok b63).bind fun x77 => (liftO (niB x76 x77)).bind fun d78 => M.ok d78).bind fun c79 => if c79 = true then (M.ok d74).bind fun y80 => M.ok (some y80) else M.ok none) l73).noX.bind fun r81 => M.ok r81).bind fun x82 => (liftS (addS x66 (.list x82))).bind fun d83 => M.ok d83).bind fun a84 => (M.ok a84))) l18 (.list a15)).bind fun (b85 : D) => (M.ok b85)))))
def mc__law_ints (r : List D → M (D)) (ds : List D) : M (D) := match ds with
  | [v0] => mb__law_ints r v0
  | _ => .err
def m__law_ints : Nat → List D → M (D)
  | 0 => fun _ => .err
  | n + 1 => mc__law_ints (m__law_ints n)
theorem mdb__law_ints {r : Fd} {mr : List D → M (D)} (ih : ∀ ds, Fr (mr ds) (r ds)) (v0 : D) : Fr (mb__law_ints mr v0) (fnD 4 [] (b__law_ints r) [v0]) := fr_of (n := 4) (ds := [v0]) (by delta b__law_ints; exact (rt_seq (rt_if (ed_orL (v := fun (q : Bool) => q) (ρ' := fun _ => [.sh v0, .em, .em, .em]) (ed_tru0 (ed_isi (ed_bor (i := 0) (by rfl)))) (fun x3 => (ed_to (v := fun (q : Bool) => q) (ρ' := fun _ => [.sh v0, .em, .em, .em]) (ed_not (ed_tru0 (ed_isi (ed_bor (i := 0) (by rfl))))) (by intros; rfl) (fun x6 => by (first | exact LeE.refl _ | (unfold LeE; (repeat' (first | exact All2.nil | refine All2.cons ?_ ?_)) <;> first | exact trivial | exact rfl | exact Or.inl rfl | exact Or.inr (Or.inl rfl) | exact Or.inr (Or.inr (Or.inl rfl)) | exact Or.inr (Or.inr (Or.inr rfl)) | exact Or.inr ⟨rfl, rfl⟩ | exact Or.inr (Or.inl ⟨rfl, rfl⟩) | exact Or.inr (Or.inr ⟨rfl, rfl⟩)))))) (by intros; rfl) (fun x3 => by (first | exact LeE.refl _ | (unfold LeE; (repeat' (first | exact All2.nil | refine All2.cons ?_ ?_)) <;> first | exact trivial | exact rfl | exact Or.inl rfl | exact Or.inr (Or.inl rfl) | exact Or.inr (Or.inr (Or.inl rfl)) | exact Or.inr (Or.inr (Or.inr rfl)) | exact Or.inr ⟨rfl, rfl⟩ | exact Or.inr (Or.inl ⟨rfl, rfl⟩) | exact Or.inr (Or.inr ⟨rfl, rfl⟩))))) (fun _ _ _ _ => trivial) (fun t7 => (rt_ret0 rfl kdFo (es_lst el_nil) (fun _ _ _ _ => trivial))) (fun t7 => (rt_skip (rk_of (rt_seq (rt_if (ed_tru0 (ed_isi (ed_bor (i := 0) (by rfl)))) (fun _ _ _ _ => trivial) (fun t11 => (rt_ret0 rfl kdFo (es_lst (el_cons0 (ed_varS (i := 0) (by rfl)) (fun x12 => el_nil))) (fun _ _ _ _ => trivial))) (fun t11 => (rt_skip (rk_of (rt_seq (rt_asg (i := 1) kdFo (es_lst el_nil) (fun _ _ _ _ => trivial) (by intros; rfl) (fun a15 => (rk_of (rt_seq (rt_fold (fun (l18 : List D) (b63 : D) => [.sh v0, .fo b63, .em, .em]) (fun (l18 : List D) => (.list a15)) (ei_seq0 (ed_varS (i := 0) (by rfl))) (fun _ _ _ _ => trivial) (fun l18 => by (first | exact LeE.refl _ | (unfold LeE; (repeat' (first | exact All2.nil | refine All2.cons ?_ ?_)) <;> first | exact trivial | exact rfl | exact Or.inl rfl | exact Or.inr (Or.inl rfl) | exact Or.inr (Or.inr (Or.inl rfl)) | exact Or.inr (Or.inr (Or.inr rfl)) | exact Or.inr ⟨rfl, rfl⟩ | exact Or.inr (Or.inl ⟨rfl, rfl⟩) | exact Or.inr (Or.inr ⟨rfl, rfl⟩)))) (by intros; rfl) (fun l18 b63 d64 => rt_gtT (gt_name (vs := [2]) (i := 2) (by decide) (by rfl)) (fun t65 => (rt_asg (i := 1) kdFo (es_bin0 fo_add (ed_var (i := 1) (by rfl)) (fun x66 => (ed_fz kdFo (es_lcF2 (vs := [3]) (v := fun (q : List D) => .list q) (ρ' := fun _ => [.sh v0, .sh b63, .sh d64, .em]) (ei_seq0 (ed_fz kdVa (es_call0 ih (el_cons0 (ed_varS (i := 2) (by rfl)) (fun x67 => el_nil))))) (by intros; rfl) (by intros; rfl) (fun l73 d74 => (gt_name (vs := [3]) (i := 3) (by decide) (by rfl))) (fun l73 d74 t75 => (ed_binB0 (ed_bor (i := 3) (by rfl)) (fun x76 => (ed_bor (i := 1) (by rfl))))) (fun l73 d74 t75 c79 => (ed_varS (i := 3) (by rfl))) (by intros; rfl) (by intros; rfl) (by intros; exact ⟨rfl, rfl⟩))))) (fun _ _ _ _ => trivial) (by intros; rfl) (fun a84 => (rk_nxN (by (first | exact LeE.refl _ | (unfold LeE; (repeat' (first | exact All2.nil | refine All2.cons ?_ ?_)) <;> first | exact trivial | exact rfl | exact Or.inl rfl | exact Or.inr (Or.inl rfl) | exact Or.inr (Or.inr (Or.inl rfl)) | exact Or.inr (Or.inr (Or.inr rfl)) | exact Or.inr ⟨rfl, rfl⟩ | exact Or.inr (Or.inl ⟨rfl, rfl⟩) | exact Or.inr (Or.inr ⟨rfl, rfl⟩))))))))) (fun l18 b85 => (rk_of (rt_retV0 rfl (i := 1) (by rfl)))))))))))))))))))))
theorem md__law_ints : ∀ (n : Nat) (ds : List D), Fr (m__law_ints n ds) (d__law_ints n ds)
  | 0, _ => trivial
  | n + 1, ds => match ds with
    | [v0] => mdb__law_ints (md__law_ints n) v0
    | [] => trivial
    | _ :: _ :: _ => trivial
def mb__law_exchanged (r : List D → M (D)) (v0 v1 v2 : D) : M (D) :=
  ((((M.ok v0).bind fun x1 => (liftO (truD (.bool (instAny ["bool"] x1)))).bind fun d2 => M.ok d2).bind fun x3 => if x3 = true then M.ok true else (((M.ok v0).bind fun x4 => (liftO (truD (.bool (instAny ["int", "tuple"] x4)))).bind fun d5 => M.ok d5).bind fun x6 => M.ok (!x6))).bind fun t7 => if t7 = true then (M.ok v0) else (((M.ok v0).bind fun x8 => (liftO (truD (.bool (instAny ["int"] x8)))).bind fun d9 => M.ok d9).bind fun t10 => if t10 = true then ((((M.ok v0).bind fun x11 => (M.ok v1).bind fun x12 => (liftO (eqB x11 x12)).bind fun d13 => M.ok d13).bind fun t14 => if t14 = true then (M.ok v2) else (((M.ok v0).bind fun x15 => (M.ok v2).bind fun x16 => (liftO (eqB x15 x16)).bind fun d17 => M.ok d17).bind fun t18 => if t18 = true then (M.ok v1) else (M.ok v0))).bind fun a23 => M.ok a23) else ((((((M.ok v0).bind fun x24 => (itM x24).bind fun l25 => M.ok l25).bind fun l26 => (lcE (fun d27 => (M.ok ()).bind fun t28 => (((M.ok d27).bind fun x30 => ((M.ok v1).bind fun x31 => ((M.ok v2).bind fun x32 => (M.ok []).bind fun x33 => M.ok (x32 :: x33)).bind fun x34 => M.ok (x31 :: x34)).bind fun x35 => M.ok (x30 :: x35)).bind fun x36 => (r x36).bind fun d37 => M.ok d37).bind fun y38 => M.ok y38) l26).noX.bind fun r39 => M.ok r39).bind fun x40 => (M.ok []).bind fun x41 => M.ok ((.list x40) :: x41)).bind fun x42 => (liftO (tupX x42)).bind fun d43 => M.ok d43).bind fun a44 => M.ok a44)))
def mc__law_exchanged (r : List D → M (D)) (ds : List D) : M (D) := match ds with
  | [v0, v1, v2] => mb__law_exchanged r v0 v1 v2
  | _ => .err
def m__law_exchanged : Nat → List D → M (D)
  | 0 => fun _ => .err
  | n + 1 => mc__law_exchanged (m__law_exchanged n)
theorem mdb__law_exchanged {r : Fd} {mr : List D → M (D)} (ih : ∀ ds, Fr (mr ds) (r ds)) (v0 v1 v2 : D) : Fr (mb__law_exchanged mr v0 v1 v2) (fnD 4 [] (b__law_exchanged r) [v0, v1, v2]) := fr_of (n := 4) (ds := [v0, v1, v2]) (by delta b__law_exchanged; exact (rt_seq (rt_if (ed_orL (v := fun (q : Bool) => q) (ρ' := fun _ => [.sh v0, .sh v1, .sh v2, .em]) (ed_tru0 (ed_isi (ed_bor (i := 0) (by rfl)))) (fun x3 => (ed_to (v := fun (q : Bool) => q) (ρ' := fun _ => [.sh v0, .sh v1, .sh v2, .em]) (ed_not (ed_tru0 (ed_isi (ed_bor (i := 0) (by rfl))))) (by intros; rfl) (fun x6 => by (first | exact LeE.refl _ | (unfold LeE; (repeat' (first | exact All2.nil | refine All2.cons ?_ ?_)) <;> first | exact trivial | exact rfl | exact Or.inl rfl | exact Or.inr (Or.inl rfl) | exact Or.inr (Or.inr (Or.inl rfl)) | exact Or.inr (Or.inr (Or.inr rfl)) | exact Or.inr ⟨rfl, rfl⟩ | exact Or.inr (Or.inl ⟨rfl, rfl⟩) | exact Or.inr (Or.inr ⟨rfl, rfl⟩)))))) (by intros; rfl) (fun x3 => by (first | exact LeE.refl _ | (unfold LeE; (repeat' (first | exact All2.nil | refine All2.cons ?_ ?_)) <;> first | exact trivial | exact rfl | exact Or.inl rfl | exact Or.inr (Or.inl rfl) | exact Or.inr (Or.inr (Or.inl rfl)) | exact Or.inr (Or.inr (Or.inr rfl)) | exact Or.inr ⟨rfl, rfl⟩ | exact Or.inr (Or.inl ⟨rfl, rfl⟩) | exact Or.inr (Or.inr ⟨rfl, rfl⟩))))) (fun _ _ _ _ => trivial) (fun t7 => (rt_retV0 rfl (i := 0) (by rfl))) (fun t7 => (rt_skip (rk_of (rt_seq (rt_if (ed_tru0 (ed_isi (ed_bor (i := 0) (by rfl)))) (fun _ _ _ _ => trivial) (fun t10 => (rt_ret0 rfl kdSh (es_sh (ed_ifc (v := fun (q : D) => q) (ρ' := fun _ => [.sh v0, .sh v1, .sh v2, .em]) (ed_binB0 (ed_bor (i := 0) (by rfl)) (fun x11 => (ed_bor (i := 1) (by rfl)))) (fun t14 => (ed_varS (i := 2) (by rfl))) (fun t14 => (ed_ifc (v := fun (q : D) => q) (ρ' := fun _ => [.sh v0, .sh v1, .sh v2, .em]) (ed_binB0 (ed_bor (i := 0) (by rfl)) (fun x15 => (ed_bor (i := 2) (by rfl)))) (fun t18 => (ed_varS (i := 1) (by rfl))) (fun t18 => (ed_varS (i := 0) (by rfl))))))) (fun _ _ _ _ => trivial))) (fun t10 => (rt_skip (rk_of (rt_ret0 rfl kdSh (es_sh (ed_ops0 (el_cons0 (ed_fz kdFo (es_lcE2 (vs := [3]) (v := fun (q : List D) => .list q) (ρ' := fun _ => [.sh v0, .sh v1, .sh v2, .em]) (ei_seq0 (ed_varS (i := 0) (by rfl))) (by intros; rfl) (by intros; rfl) (fun l26 d27 => (gt_name (vs := [3]) (i := 3) (by decide) (by rfl))) (fun l26 d27 t28 => (ed_fz kdVa (es_call0 ih (el_cons0 (ed_varS (i := 3) (by rfl)) (fun x30 => (el_cons0 (ed_varS (i := 1) (by rfl)) (fun x31 => (el_cons0 (ed_varS (i := 2) (by rfl)) (fun x32 => el_nil))))))))) (by intros; rfl) (by intros; exact ⟨rfl, rfl⟩))) (fun x40 => el_nil)))) (fun _ _ _ _ => trivial)))))))))))))
theorem md__law_exchanged : ∀ (n : Nat) (ds : List D), Fr (m__law_exchanged n ds) (d__law_exchanged n ds)
  | 0, _ => trivial
  | n + 1, ds => match ds with
    | [v0, v1, v2] => mdb__law_exchanged (md__law_exchanged n) v0 v1 v2
    | [] => trivial
    | [_] => trivial
    | [_, _] => trivial
    | _ :: _ :: _ :: _ :: _ => trivial
def mb__law_cut (r : List D → M (D × D)) (v0 v1 : D) : M (D × D) :=
  ((((M.ok v1).bind fun x1 => (liftO (truD (.bool (instAny ["tuple"] x1)))).bind fun d2 => M.ok d2).bind fun x3 => if (!x3) = true then M.ok true else ((M.ok v1).bind fun x4 => (M.ok []).bind fun x5 => (liftO (eqB x4 (.tuple x5))).bind fun d6 => M.ok d6)).bind fun t8 => if t8 = true then (M.ok (v1, v0)) else (((((M.ok v1).bind fun x9 => (itM x9).bind fun l10 => M.ok l10).bind fun l11 => (lcF (fun d12 => (M.ok ()).bind fun t13 => ((M.ok d12).bind fun x14 => (liftO (truD (.bool (instAny ["str"] x14)))).bind fun d15 => M.ok d15).bind fun c16 => if (!c16) = true then (M.ok d12).bind fun y17 => M.ok (some y17) else M.ok none) l11).noX.bind fun r18 => M.ok r18).bind fun x19 => (M.ok []).bind fun x20 => (liftO (neB (.list x19) (.list x20))).bind fun d21 => M.ok d21).bind fun t22 => if t22 = true then ((((((M.ok v1).bind fun x23 => (M.ok []).bind fun x24 => M.ok (x23 :: x24)).bind fun x25 => (liftO (lenD x25)).bind fun d26 => M.ok d26).bind fun x27 => (M.ok []).bind fun x28 => M.ok (x27 :: x28)).bind fun x29 => (m__law_next (v0 :: x29)).bind fun r30 => M.ok r30).bind fun a31 => (((((M.ok v1).bind fun x32 => (M.ok ()).bind fun x33 => ((M.ok a31.1).bind fun x34 => (intM x34).bind fun i35 => M.ok i35).bind fun x36 => (liftS (cutF x32 none (some x36))).bind fun d37 => M.ok d37).bind fun x38 => (((((M.ok v1).bind fun x39 => (M.ok a31.1).bind fun x40 => (liftO (ixD x39 x40)).bind fun d41 => M.ok d41).bind fun x42 => (M.ok []).bind fun x43 => M.ok (x42 :: x43)).bind fun x44 => (r (a31.2 :: x44)).bind fun r45 => M.ok r45).bind fun x46 => (M.ok []).bind fun x47 => M.ok ((x46.1 :: x47), x46.2)).bind fun x48 => (liftS (addS x38 (.tuple x48.1))).bind fun d49 => M.ok (d49, x48.2)).bind fun x50 => ((M.ok v1).bind fun x51 => (((M.ok a31.1).bind fun x52 => (M.ok (.int 1)).bind fun x53 => (liftS (addS x52 x53)).bind fun d54 => M.ok d54).bind fun x55 => (intM x55).bind fun i56 => M.ok i56).bind fun x57 => (M.ok ()).bind fun x58 => (liftS (cutF x51 (some x57) none)).bind fun d59 => M.ok d59).bind fun x60 => (liftS (addS x50.1 x60)).bind fun d61 => M.ok (d61, x50.2)).bind fun a62 => M.ok (a62.1, a62.2))) else ((((((M.ok v1).bind fun x63 => (M.ok []).bind fun x64 => M.ok (x63 :: x64)).bind fun x65 => (liftO (lenD x65)).bind fun d66 => M.ok d66).bind fun x67 => (M.ok []).bind fun x68 => M.ok (x67 :: x68)).bind fun x69 => (m__law_next (v0 :: x69)).bind fun r70 => M.ok r70).bind fun a71 => ((((((((M.ok v1).bind fun x72 => (M.ok a71.1).bind fun x73 => (liftO (ixD x72 x73)).bind fun d74 => M.ok d74).bind fun x75 => (M.ok []).bind fun x76 => M.ok (x75 :: x76)).bind fun x77 => (liftO (lenD x77)).bind fun d78 => M.ok d78).bind fun x79 => (M.ok (.int 1)).bind fun x80 => (liftS (addS x79 x80)).bind fun d81 => M.ok d81).bind fun x82 => (M.ok []).bind fun x83 => M.ok (x82 :: x83)).bind fun x84 => (m__law_next (a71.2 :: x84)).bind fun r85 => M.ok r85).bind fun a86 => ((((((M.ok v1).bind fun x87 => (M.ok ()).bind fun x88 => ((M.ok a71.1).bind fun x89 => (intM x89).bind fun i90 => M.ok i90).bind fun x91 => (liftS (cutF x87 none (some x91))).bind fun d92 => M.ok d92).bind fun x93 => ((((M.ok v1).bind fun x94 => (M.ok a71.1).bind fun x95 => (liftO (ixD x94 x95)).bind fun d96 => M.ok d96).bind fun x97 => (M.ok ()).bind fun x98 => ((M.ok a86.1).bind fun x99 => (intM x99).bind fun i100 => M.ok i100).bind fun x101 => (liftS (cutF x97 none (some x101))).bind fun d102 => M.ok d102).bind fun x103 => ((((M.ok v1).bind fun x104 => (M.ok a71.1).bind fun x105 => (liftO (ixD x104 x105)).bind fun d106 => M.ok d106).bind fun x107 => ((M.ok a86.1).bind fun x108 => (intM x108).bind fun i109 => M.ok i109).bind fun x110 => (M.ok ()).bind fun x111 => (liftS (cutF x107 (some x110) none)).bind fun d112 => M.ok d112).bind fun x113 => (M.ok []).bind fun x114 => M.ok (x113 :: x114)).bind fun x115 => M.ok (x103 :: x115)).bind fun x116 => (liftS (addS x93 (.tuple x116))).bind fun d117 => M.ok d117).bind fun x118 => ((M.ok v1).bind fun x119 => (((M.ok a71.1).bind fun x120 => (M.ok (.int 1)).bind fun x121 => (liftS (addS x120 x121)).bind fun d122 => M.ok d122).bind fun x123 => (intM x123).bind fun i124 => M.ok i124).bind fun x125 => (M.ok ()).bind fun x126 => (liftS (cutF x119 (some x125) none)).bind fun d127 => M.ok d127).bind fun x128 => (liftS (addS x118 x128)).bind fun d129 => M.ok d129).bind fun x130 => (((((M.ok v1).bind fun x131 => (M.ok ()).bind fun x132 => ((M.ok a71.1).bind fun x133 => (intM x133).bind fun i134 => M.ok i134).bind fun x135 => (liftS (cutF x131 none (some x135))).bind fun d136 => M.ok d136).bind fun x137 => (((M.ok (.str "")).bind fun x138 => (isStr x138).bind fun _ => ((M.ok v1).bind fun x139 => ((M.ok a71.1).bind fun x140 => (intM x140).bind fun i141 => M.ok i141).bind fun x142 => (((M.ok a71.1).bind fun x143 => (M.ok (.int 2)).bind fun x144 => (liftS (addS x143 x144)).bind fun d145 => M.ok d145).bind fun x146 => (intM x146).bind fun i147 => M.ok i147).bind fun x148 => (liftS (cutF x139 (some x142) (some x148))).bind fun d149 => M.ok d149).bind fun x150 => (liftO (joinD x138 x150)).bind fun d151 => M.ok d151).bind fun x152 => (M.ok []).bind fun x153 => M.ok (x152 :: x153)).bind fun x154 => (liftS (addS x137 (.tuple x154))).bind fun d155 => M.ok d155).bind fun x156 => ((M.ok v1).bind fun x157 => (((M.ok a71.1).bind fun x158 => (M.ok (.int 2)).bind fun x159 => (liftS (addS x158 x159)).bind fun d160 => M.ok d160).bind fun x161 => (intM x161).bind fun i162 => M.ok i162).bind fun x163 => (M.ok ()).bind fun x164 => (liftS (cutF x157 (some x163) none)).bind fun d165 => M.ok d165).bind fun x166 => (liftS (addS x156 x166)).bind fun d167 => M.ok d167).bind fun x168 => (M.ok []).bind fun x169 => M.ok (x168 :: x169)).bind fun x170 => M.ok (x130 :: x170)).bind fun a171 => (((M.ok (.list a171)).bind fun x172 => ((((M.ok (.str "")).bind fun x173 => (isStr x173).bind fun _ => (M.ok v1).bind fun x174 => (liftO (joinD x173 x174)).bind fun d175 => M.ok d175).bind fun x176 => (M.ok []).bind fun x177 => M.ok (x176 :: x177)).bind fun x178 => (((((M.ok (.str "")).bind fun x179 => (isStr x179).bind fun _ => (M.ok v1).bind fun x180 => (liftO (joinD x179 x180)).bind fun d181 => M.ok d181).bind fun x182 => (M.ok []).bind fun x183 => M.ok (x182 :: x183)).bind fun x184 => (liftO (tupX x184)).bind fun d185 => M.ok d185).bind fun x186 => (((((M.ok v1).bind fun x187 => (M.ok ()).bind fun x188 => ((M.ok a71.1).bind fun x189 => (intM x189).bind fun i190 => M.ok i190).bind fun x191 => (liftS (cutF x187 none (some x191))).bind fun d192 => M.ok d192).bind fun x193 => ((M.ok (.str "")).bind fun x194 => (M.ok []).bind fun x195 => M.ok (x194 :: x195)).bind fun x196 => (liftS (addS x193 (.tuple x196))).bind fun d197 => M.ok d197).bind fun x198 => ((M.ok v1).bind fun x199 => ((M.ok a71.1).bind fun x200 => (intM x200).bind fun i201 => M.ok i201).bind fun x202 => (M.ok ()).bind fun x203 => (liftS (cutF x199 (some x202) none)).bind fun d204 => M.ok d204).bind fun x205 => (liftS (addS x198 x205)).bind fun d206 => M.ok d206).bind fun x207 => (((((M.ok v1).bind fun x208 => (M.ok ()).bind fun x209 => ((M.ok a71.1).bind fun x210 => (intM x210).bind fun i211 => M.ok i211).bind fun x212 => (liftS (cutF x208 none (some x212))).bind fun d213 => M.ok d213).bind fun x214 => (((M.ok v1).bind fun x215 => ((M.ok a71.1).bind fun x216 => (intM x216).bind fun i217 => M.ok i217).bind fun x218 => (((M.ok a71.1).bind fun x219 => (M.ok (.int 2)).bind fun x220 => (liftS (addS x219 x220)).bind fun d221 => M.ok d221).bind fun x222 => (intM x222).bind fun i223 => M.ok i223).bind fun x224 => (liftS (cutF x215 (some x218) (some x224))).bind fun d225 => M.ok d225).bind fun x226 => (liftS (revF x226)).bind fun d227 => M.ok d227).bind fun x228 => (liftS (addS x214 x228)).bind fun d229 => M.ok d229).bind fun x230 => ((M.ok v1).bind fun x231 => (((M.ok a71.1).bind fun x232 => (M.ok (.int 2)).bind fun x233 => (liftS (addS x232 x233)).bind fun d234 => M.ok d234).bind fun x235 => (intM x235).bind fun i236 => M.ok i236).bind fun x237 => (M.ok ()).bind fun x238 => (liftS (cutF x231 (some x237) none)).bind fun d239 => M.ok d239).bind fun x240 => (liftS (addS x230 x240)).bind fun d241 => M.ok d241).bind fun x242 => (M.ok []).bind fun x243 => M.ok (x242 :: x243)).bind fun x244 => M.ok (x207 :: x244)).bind fun x245 => M.ok (x186 :: x245)).bind fun x246 => M.ok ((.tuple x178) :: x246)).bind fun x247 => (liftS (addS x172 (.list x247))).bind fun d248 => M.ok d248).bind fun a249 => (((M.ok a249).bind fun x250 => (((((M.ok a249).bind fun x251 => (M.ok []).bind fun x252 => M.ok (x251 :: x252)).bind fun x253 => (liftO (lenD x253)).bind fun d254 => M.ok d254).bind fun x255 => (M.ok []).bind fun x256 => M.ok (x255 :: x256)).bind fun x257 => (m__law_next (a86.2 :: x257)).bind fun r258 => M.ok r258).bind fun x259 => (liftO (ixD x250 x259.1)).bind fun d260 => M.ok (d260, x259.2)).bind fun a261 => M.ok (a261.1, a261.2)))))))).noX
def mc__law_cut (r : List D → M (D × D)) (ds : List D) : M (D × D) := match ds with
  | [v0, v1] => mb__law_cut r v0 v1
  | _ => .err
def m__law_cut : Nat → List D → M (D × D)
  | 0 => fun _ => .err
  | n + 1 => mc__law_cut (m__law_cut n)
theorem mdb__law_cut {r : Fd} {mr : List D → M (D × D)} (ih : ∀ ds, Fr1 (mr ds) (r ds)) (v0 v1 : D) : Fr1 (mb__law_cut mr v0 v1) (fnD 6 [0] (b__law_cut r) [v0, v1]) := fr1_of (n := 6) (d := v0) (ds := [v1]) (by delta b__law_cut; exact (rt_seq (rt_if (ed_orL (v := fun (q : Bool) => q) (ρ' := fun _ => [.rf v0, .sh v1, .em, .em, .em, .em]) (ed_not (ed_tru0 (ed_isi (ed_bor (i := 1) (by rfl))))) (fun x3 => (ed_binB0 (ed_bor (i := 1) (by rfl)) (fun x4 => (ed_tup el_nil)))) (by intros; rfl) (fun x3 => by (first | exact LeE.refl _ | (unfold LeE; (repeat' (first | exact All2.nil | refine All2.cons ?_ ?_)) <;> first | exact trivial | exact rfl | exact Or.inl rfl | exact Or.inr (Or.inl rfl) | exact Or.inr (Or.inr (Or.inl rfl)) | exact Or.inr (Or.inr (Or.inr rfl)) | exact Or.inr ⟨rfl, rfl⟩ | exact Or.inr (Or.inl ⟨rfl, rfl⟩) | exact Or.inr (Or.inr ⟨rfl, rfl⟩))))) (fun _ _ _ _ => trivial) (fun t8 => (rt_retV1 rfl (i := 1) rfl rfl (by decide))) (fun t8 => (rt_skip (rk_of (rt_seq (rt_if (ed_binB0 (ed_fz kdFo (es_lcF2 (vs := [5]) (v := fun (q : List D) => .list q) (ρ' := fun _ => [.rf v0, .sh v1, .em, .em, .em, .em]) (ei_seq0 (ed_varS (i := 1) (by rfl))) (by intros; rfl) (by intros; rfl) (fun l11 d12 => (gt_name (vs := [5]) (i := 5) (by decide) (by rfl))) (fun l11 d12 t13 => (ed_not (ed_tru0 (ed_isi (ed_bor (i := 5) (by rfl)))))) (fun l11 d12 t13 c16 => (ed_varS (i := 5) (by rfl))) (by intros; rfl) (by intros; rfl) (by intros; exact ⟨rfl, rfl⟩))) (fun x19 => (ed_fz kdFo (es_lst el_nil)))) (fun _ _ _ _ => trivial) (fun t22 => (rt_seq (rt_asg (i := 2) kdVa (es_callR (i := 0) (w := fun (x29 : List D) => v0) (v := fun (q : D × D) => q.1) (ρ' := fun (q : D × D) => [.rf q.2, .sh v1, .em, .em, .em, .em]) md__law_next (by rfl) (el_cons0 (ed_ops0 (el_cons0 (ed_bor (i := 1) (by rfl)) (fun x23 => el_nil))) (fun x27 => el_nil)) (by intros; rfl) (by intros; exact ⟨rfl, rfl⟩)) (fun _ _ _ _ => trivial) (by intros; rfl) (fun a31 => (rk_of (rt_ret1 rfl (e := fun (a62 : D × D) => a62.2) kdFo (es_bin (v := fun (q : D × D) => q.1) (ρ' := fun (q : D × D) => [.rf q.2, .sh v1, .va a31.1, .em, .em, .em]) fo_add (ed_fz kdFo (es_bin (v := fun (q : D × D) => q.1) (ρ' := fun (q : D × D) => [.rf q.2, .sh v1, .va a31.1, .em, .em, .em]) fo_add (ed_fz kdFo (es_slc0 fo_cut (ed_bor (i := 1) (by rfl)) (fun x32 => eo_no) (fun x32 x33 => (eo_at0 (ed_bor (i := 2) (by rfl)))))) (fun x38 => (ed_tup (el_cons (v := fun (q : List D × D) => q.1) (ρ' := fun (q : List D × D) => [.rf q.2, .sh v1, .va a31.1, .em, .em, .em]) (ed_fz kdVa (es_callR (i := 0) (w := fun (x44 : List D) => a31.2) (v := fun (q : D × D) => q.1) (ρ' := fun (q : D × D) => [.rf q.2, .sh v1, .va a31.1, .em, .em, .em]) ih (by rfl) (el_cons0 (ed_bin0 (ed_bor (i := 1) (by rfl)) (fun x39 => (ed_bor (i := 2) (by rfl)))) (fun x42 => el_nil)) (by intros; rfl) (by intros; exact ⟨rfl, rfl⟩))) (fun x46 => el_nil) (by intros; exact ⟨rfl, rfl⟩)))) (by intros; exact ⟨rfl, rfl⟩))) (fun x50 => (ed_fz kdFo (es_slc0 fo_cut (ed_bor (i := 1) (by rfl)) (fun x51 => (eo_at0 (ed_fz kdFo (es_bin0 fo_add (ed_bor (i := 2) (by rfl)) (fun x52 => ed_con))))) (fun x51 x57 => eo_no)))) (by intros; exact ⟨rfl, rfl⟩)) (fun _ _ _ _ => trivial) (by intros; rfl))))))) (fun t22 => (rt_skip (rk_of (rt_seq (rt_asg (i := 2) kdVa (es_callR (i := 0) (w := fun (x69 : List D) => v0) (v := fun (q : D × D) => q.1) (ρ' := fun (q : D × D) => [.rf q.2, .sh v1, .em, .em, .em, .em]) md__law_next (by rfl) (el_cons0 (ed_ops0 (el_cons0 (ed_bor (i := 1) (by rfl)) (fun x63 => el_nil))) (fun x67 => el_nil)) (by intros; rfl) (by intros; exact ⟨rfl, rfl⟩)) (fun _ _ _ _ => trivial) (by intros; rfl) (fun a71 => (rk_of (rt_seq (rt_asg (i := 3) kdVa (es_callR (i := 0) (w := fun (x84 : List D) => a71.2) (v := fun (q : D × D) => q.1) (ρ' := fun (q : D × D) => [.rf q.2, .sh v1, .va a71.1, .em, .em, .em]) md__law_next (by rfl) (el_cons0 (ed_fz kdFo (es_bin0 fo_add (ed_ops0 (el_cons0 (ed_bin0 (ed_bor (i := 1) (by rfl)) (fun x72 => (ed_bor (i := 2) (by rfl)))) (fun x75 => el_nil))) (fun x79 => ed_con))) (fun x82 => el_nil)) (by intros; rfl) (by intros; exact ⟨rfl, rfl⟩)) (fun _ _ _ _ => trivial) (by intros; rfl) (fun a86 => (rk_of (rt_seq (rt_asg (i := 4) kdFo (es_lst (el_cons0 (ed_fz kdFo (es_bin0 fo_add (ed_fz kdFo (es_bin0 fo_add (ed_fz kdFo (es_slc0 fo_cut (ed_bor (i := 1) (by rfl)) (fun x87 => eo_no) (fun x87 x88 => (eo_at0 (ed_bor (i := 2) (by rfl)))))) (fun x93 => (ed_tup (el_cons0 (ed_fz kdFo (es_slc0 fo_cut (ed_bin0 (ed_bor (i := 1) (by rfl)) (fun x94 => (ed_bor (i := 2) (by rfl)))) (fun x97 => eo_no) (fun x97 x98 => (eo_at0 (ed_bor (i := 3) (by rfl)))))) (fun x103 => (el_cons0 (ed_fz kdFo (es_slc0 fo_cut (ed_bin0 (ed_bor (i := 1) (by rfl)) (fun x104 => (ed_bor (i := 2) (by rfl)))) (fun x107 => (eo_at0 (ed_bor (i := 3) (by rfl)))) (fun x107 x110 => eo_no))) (fun x113 => el_nil)))))))) (fun x118 => (ed_fz kdFo (es_slc0 fo_cut (ed_bor (i := 1) (by rfl)) (fun x119 => (eo_at0 (ed_fz kdFo (es_bin0 fo_add (ed_bor (i := 2) (by rfl)) (fun x120 => ed_con))))) (fun x119 x125 => eo_no)))))) (fun x130 => (el_cons0 (ed_fz kdFo (es_bin0 fo_add (ed_fz kdFo (es_bin0 fo_add (ed_fz kdFo (es_slc0 fo_cut (ed_bor (i := 1) (by rfl)) (fun x131 => eo_no) (fun x131 x132 => (eo_at0 (ed_bor (i := 2) (by rfl)))))) (fun x137 => (ed_tup (el_cons0 (ed_join0 ed_con (fun x138 => (ed_fz kdFo (es_slc0 fo_cut (ed_bor (i := 1) (by rfl)) (fun x139 => (eo_at0 (ed_bor (i := 2) (by rfl)))) (fun x139 x142 => (eo_at0 (ed_fz kdFo (es_bin0 fo_add (ed_bor (i := 2) (by rfl)) (fun x143 => ed_con))))))))) (fun x152 => el_nil)))))) (fun x156 => (ed_fz kdFo (es_slc0 fo_cut (ed_bor (i := 1) (by rfl)) (fun x157 => (eo_at0 (ed_fz kdFo (es_bin0 fo_add (ed_bor (i := 2) (by rfl)) (fun x158 => ed_con))))) (fun x157 x163 => eo_no)))))) (fun x168 => el_nil))))) (fun _ _ _ _ => trivial) (by intros; rfl) (fun a171 => (rk_of (rt_seq (rt_asg (i := 4) kdFo (es_bin0 fo_add (ed_bor (i := 4) (by rfl)) (fun x172 => (ed_fz kdFo (es_lst (el_cons0 (ed_tup (el_cons0 (ed_join0 ed_con (fun x173 => (ed_bor (i := 1) (by rfl)))) (fun x176 => el_nil))) (fun x178 => (el_cons0 (ed_ops0 (el_cons0 (ed_join0 ed_con (fun x179 => (ed_bor (i := 1) (by rfl)))) (fun x182 => el_nil))) (fun x186 => (el_cons0 (ed_fz kdFo (es_bin0 fo_add (ed_fz kdFo (es_bin0 fo_add (ed_fz kdFo (es_slc0 fo_cut (ed_bor (i := 1) (by rfl)) (fun x187 => eo_no) (fun x187 x188 => (eo_at0 (ed_bor (i := 2) (by rfl)))))) (fun x193 => (ed_tup (el_cons0 ed_con (fun x194 => el_nil)))))) (fun x198 => (ed_fz kdFo (es_slc0 fo_cut (ed_bor (i := 1) (by rfl)) (fun x199 => (eo_at0 (ed_bor (i := 2) (by rfl)))) (fun x199 x202 => eo_no)))))) (fun x207 => (el_cons0 (ed_fz kdFo (es_bin0 fo_add (ed_fz kdFo (es_bin0 fo_add (ed_fz kdFo (es_slc0 fo_cut (ed_bor (i := 1) (by rfl)) (fun x208 => eo_no) (fun x208 x209 => (eo_at0 (ed_bor (i := 2) (by rfl)))))) (fun x214 => (ed_fz kdFo (es_un0 fo_rev (ed_fz kdFo (es_slc0 fo_cut (ed_bor (i := 1) (by rfl)) (fun x215 => (eo_at0 (ed_bor (i := 2) (by rfl)))) (fun x215 x218 => (eo_at0 (ed_fz kdFo (es_bin0 fo_add (ed_bor (i := 2) (by rfl)) (fun x219 => ed_con)))))))))))) (fun x230 => (ed_fz kdFo (es_slc0 fo_cut (ed_bor (i := 1) (by rfl)) (fun x231 => (eo_at0 (ed_fz kdFo (es_bin0 fo_add (ed_bor (i := 2) (by rfl)) (fun x232 => ed_con))))) (fun x231 x237 => eo_no)))))) (fun x242 => el_nil)))))))))))) (fun _ _ _ _ => trivial) (by intros; rfl) (fun a249 => (rk_of (rt_ret1 rfl (e := fun (a261 : D × D) => a261.2) kdSh (es_sh (ed_bin (v := fun (q : D × D) => q.1) (ρ' := fun (q : D × D) => [.rf q.2, .sh v1, .va a71.1, .va a86.1, .sh a249, .em]) (ed_var (i := 4) (by rfl)) (fun x250 => (ed_fz kdVa (es_callR (i := 0) (w := fun (x257 : List D) => a86.2) (v := fun (q : D × D) => q.1) (ρ' := fun (q : D × D) => [.rf q.2, .sh v1, .va a71.1, .va a86.1, .sh a249, .em]) md__law_next (by rfl) (el_cons0 (ed_ops0 (el_cons0 (ed_bor (i := 4) (by rfl)) (fun x251 => el_nil))) (fun x255 => el_nil)) (by intros; rfl) (by intros; exact ⟨rfl, rfl⟩)))) (by intros; exact ⟨rfl, rfl⟩))) (fun _ _ _ _ => trivial) (by intros; rfl)))))))))))))))))))))))))))))
theorem md__law_cut : ∀ (n : Nat) (ds : List D), Fr1 (m__law_cut n ds) (d__law_cut n ds)
  | 0, _ => trivial
  | n + 1, ds => match ds with
    | [v0, v1] => mdb__law_cut (md__law_cut n) v0 v1
    | [] => trivial
    | [_] => trivial
    | _ :: _ :: _ :: _ => trivial
def mb__law_turned_about (v0 v1 : D) : M (D × D) :=
  ((((M.ok v1).bind fun x1 => (M.ok []).bind fun x2 => M.ok (x1 :: x2)).bind fun x3 => ((m__law_ints 40) x3).bind fun d4 => M.ok d4).bind fun a5 => ((((M.ok (.int 5)).bind fun x6 => (M.ok []).bind fun x7 => M.ok (x6 :: x7)).bind fun x8 => (m__law_next (v0 :: x8)).bind fun r9 => M.ok r9).bind fun a10 => ((((M.ok a10.1).bind fun x11 => (M.ok (.int 3)).bind fun x12 => (liftO (ltB x11 x12)).bind fun d13 => M.ok d13).bind fun x14 => if x14 = true then ((M.ok a5).bind fun x15 => (M.ok []).bind fun x16 => (liftO (neB x15 (.list x16))).bind fun d17 => M.ok d17) else M.ok false).bind fun t19 => if t19 = true then (((M.ok a5).bind fun x20 => (((((M.ok a5).bind fun x21 => (M.ok []).bind fun x22 => M.ok (x21 :: x22)).bind fun x23 => (liftO (lenD x23)).bind fun d24 => M.ok d24).bind fun x25 => (M.ok []).bind fun x26 => M.ok (x25 :: x26)).bind fun x27 => (m__law_next (a10.2 :: x27)).bind fun r28 => M.ok r28).bind fun x29 => (liftO (ixD x20 x29.1)).bind fun d30 => M.ok (d30, x29.2)).bind fun a31 => ((((M.ok a10.1).bind fun x32 => (M.ok (.int 0)).bind fun x33 => (liftO (eqB x32 x33)).bind fun d34 => M.ok d34).bind fun t35 => if t35 = true then (((M.ok a31.1).bind fun x36 => (M.ok (.int 1)).bind fun x37 => (liftS (addS x36 x37)).bind fun d38 => M.ok d38).bind fun x50 => M.ok (x50, a31.2)) else (((M.ok a5).bind fun x39 => (((((M.ok a5).bind fun x40 => (M.ok []).bind fun x41 => M.ok (x40 :: x41)).bind fun x42 => (liftO (lenD x42)).bind fun d43 => M.ok d43).bind fun x44 => (M.ok []).bind fun x45 => M.ok (x44 :: x45)).bind fun x46 => (m__law_next (a31.2 :: x46)).bind fun r47 => M.ok r47).bind fun x48 => (liftO (ixD x39 x48.1)).bind fun d49 => M.ok (d49, x48.2)).bind fun x51 => M.ok (x51.1, x51.2))).bind fun a52 => ((((M.ok v1).bind fun x53 => ((M.ok a31.1).bind fun x54 => ((M.ok a52.1).bind fun x55 => (M.ok []).bind fun x56 => M.ok (x55 :: x56)).bind fun x57 => M.ok (x54 :: x57)).bind fun x58 => M.ok (x53 :: x58)).bind fun x59 => ((m__law_exchanged 40) x59).bind fun d60 => M.ok d60).bind fun a61 => M.ok (a61, a52.2)))) else (((M.ok a10.1).bind fun x62 => (M.ok (.int 3)).bind fun x63 => (liftO (eqB x62 x63)).bind fun d64 => M.ok d64).bind fun t65 => if t65 = true then ((((M.ok v1).bind fun x66 => (M.ok ()).bind fun x67 => ((M.ok (.int 1)).bind fun x68 => (intM x68).bind fun i69 => M.ok i69).bind fun x70 => (liftS (cutF x66 none (some x70))).bind fun d71 => M.ok d71).bind fun x72 => (((((M.ok v1).bind fun x73 => (M.ok []).bind fun x74 => M.ok (x73 :: x74)).bind fun x75 => (liftO (lenD x75)).bind fun d76 => M.ok d76).bind fun x77 => (M.ok (.int 2)).bind fun x78 => (liftO (gtB x77 x78)).bind fun d79 => M.ok d79).bind fun t80 => if t80 = true then (((((M.ok v1).bind fun x81 => ((M.ok (.int 1)).bind fun x82 => (intM x82).bind fun i83 => M.ok i83).bind fun x84 => (M.ok ()).bind fun x85 => (liftS (cutF x81 (some x84) none)).bind fun d86 => M.ok d86).bind fun x87 => (M.ok []).bind fun x88 => M.ok (x87 :: x88)).bind fun x89 => ((m__law_cut 40) (a10.2 :: x89)).bind fun r90 => M.ok r90).bind fun x121 => M.ok (x121.1, x121.2)) else (((((((M.ok v1).bind fun x91 => ((M.ok (.int 1)).bind fun x92 => (intM x92).bind fun i93 => M.ok i93).bind fun x94 => (M.ok ()).bind fun x95 => (liftS (cutF x91 (some x94) none)).bind fun d96 => M.ok d96).bind fun x97 => (itM x97).bind fun l98 => M.ok l98).bind fun l99 => (lcS (fun b109 d100 => (M.ok ()).bind fun t110 => (((M.ok d100).bind fun x112 => (M.ok []).bind fun x113 => M.ok (x112 :: x113)).bind fun x114 => ((m__law_cut 40) (b109 :: x114)).bind fun r115 => M.ok r115).bind fun y116 => M.ok (some y116.1, y116.2)) l99 a10.2).noX.bind fun r108 => M.ok r108).bind fun x117 => (M.ok []).bind fun x118 => M.ok (((.list x117.1) :: x118), x117.2)).bind fun x119 => (liftO (tupX x119.1)).bind fun d120 => M.ok (d120, x119.2)).bind fun x122 => M.ok (x122.1, x122.2))).bind fun x123 => (liftS (addS x72 x123.1)).bind fun d124 => M.ok (d124, x123.2)).bind fun a125 => M.ok (a125.1, a125.2)) else (((((((M.ok v1).bind fun x126 => (M.ok []).bind fun x127 => M.ok (x126 :: x127)).bind fun x128 => (liftO (lenD x128)).bind fun d129 => M.ok d129).bind fun x130 => (M.ok []).bind fun x131 => M.ok (x130 :: x131)).bind fun x132 => (m__law_next (a10.2 :: x132)).bind fun r133 => M.ok r133).bind fun x134 => ((((((M.ok v1).bind fun x135 => (M.ok []).bind fun x136 => M.ok (x135 :: x136)).bind fun x137 => (liftO (lenD x137)).bind fun d138 => M.ok d138).bind fun x139 => (M.ok []).bind fun x140 => M.ok (x139 :: x140)).bind fun x141 => (m__law_next (x134.2 :: x141)).bind fun r142 => M.ok r142).bind fun x143 => (M.ok []).bind fun x144 => M.ok ((x143.1 :: x144), x143.2)).bind fun x145 => M.ok ((x134.1 :: x145.1), x145.2)).bind fun a146 => (two a146.1).bind fun q147 => ((((((M.ok v1).bind fun x148 => (M.ok []).bind fun x149 => M.ok (x148 :: x149)).bind fun x150 => (liftO (lenD x150)).bind fun d151 => M.ok d151).bind fun x152 => (M.ok (.int 2)).bind fun x153 => (liftO (eqB x152 x153)).bind fun d154 => M.ok d154).bind fun x155 => if x155 = true then ((((M.ok v1).bind fun x156 => (M.ok (.int 1)).bind fun x157 => (liftO (ixD x156 x157)).bind fun d158 => M.ok d158).bind fun x159 => (liftO (truD (.bool (instAny ["tuple"] x159)))).bind fun d160 => M.ok d160).bind fun x161 => if x161 = true then (((M.ok v1).bind fun x162 => (M.ok (.int 1)).bind fun x163 => (liftO (ixD x162 x163)).bind fun d164 => M.ok d164).bind fun x165 => (M.ok []).bind fun x166 => (liftO (neB x165 (.tuple x166))).bind fun d167 => M.ok d167) else M.ok false) else M.ok false).bind fun t170 => if t170 = true then ((((((((M.ok v1).bind fun x171 => (M.ok (.int 1)).bind fun x172 => (liftO (ixD x171 x172)).bind fun d173 => M.ok d173).bind fun x174 => (M.ok []).bind fun x175 => M.ok (x174 :: x175)).bind fun x176 => (liftO (lenD x176)).bind fun d177 => M.ok d177).bind fun x178 => (M.ok []).bind fun x179 => M.ok (x178 :: x179)).bind fun x180 => (m__law_next (a146.2 :: x180)).bind fun r181 => M.ok r181).bind fun x182 => (((((((M.ok v1).bind fun x183 => (M.ok (.int 1)).bind fun x184 => (liftO (ixD x183 x184)).bind fun d185 => M.ok d185).bind fun x186 => (M.ok []).bind fun x187 => M.ok (x186 :: x187)).bind fun x188 => (liftO (lenD x188)).bind fun d189 => M.ok d189).bind fun x190 => (M.ok []).bind fun x191 => M.ok (x190 :: x191)).bind fun x192 => (m__law_next (x182.2 :: x192)).bind fun r193 => M.ok r193).bind fun x194 => (M.ok []).bind fun x195 => M.ok ((x194.1 :: x195), x194.2)).bind fun x196 => M.ok ((x182.1 :: x196.1), x196.2)).bind fun a197 => (two a197.1).bind fun q198 => ((((M.ok v1).bind fun x199 => (M.ok (.int 0)).bind fun x200 => (liftO (ixD x199 x200)).bind fun d201 => M.ok d201).bind fun x202 => ((((((M.ok v1).bind fun x203 => (M.ok (.int 1)).bind fun x204 => (liftO (ixD x203 x204)).bind fun d205 => M.ok d205).bind fun x206 => (M.ok ()).bind fun x207 => ((M.ok q198.1).bind fun x208 => (intM x208).bind fun i209 => M.ok i209).bind fun x210 => (liftS (cutF x206 none (some x210))).bind fun d211 => M.ok d211).bind fun x212 => (((M.ok v1).bind fun x213 => (M.ok (.int 1)).bind fun x214 => (liftO (ixD x213 x214)).bind fun d215 => M.ok d215).bind fun x216 => ((M.ok q198.2).bind fun x217 => (intM x217).bind fun i218 => M.ok i218).bind fun x219 => (((M.ok q198.2).bind fun x220 => (M.ok (.int 1)).bind fun x221 => (liftS (addS x220 x221)).bind fun d222 => M.ok d222).bind fun x223 => (intM x223).bind fun i224 => M.ok i224).bind fun x225 => (liftS (cutF x216 (some x219) (some x225))).bind fun d226 => M.ok d226).bind fun x227 => (liftS (addS x212 x227)).bind fun d228 => M.ok d228).bind fun x229 => (((M.ok v1).bind fun x230 => (M.ok (.int 1)).bind fun x231 => (liftO (ixD x230 x231)).bind fun d232 => M.ok d232).bind fun x233 => (((M.ok q198.1).bind fun x234 => (M.ok (.int 1)).bind fun x235 => (liftS (addS x234 x235)).bind fun d236 => M.ok d236).bind fun x237 => (intM x237).bind fun i238 => M.ok i238).bind fun x239 => (M.ok ()).bind fun x240 => (liftS (cutF x233 (some x239) none)).bind fun d241 => M.ok d241).bind fun x242 => (liftS (addS x229 x242)).bind fun d243 => M.ok d243).bind fun x244 => (M.ok []).bind fun x245 => M.ok (x244 :: x245)).bind fun x246 => M.ok (x202 :: x246)).bind fun a247 => M.ok ((.tuple a247), a197.2))) else (((((M.ok q147.1).bind fun x248 => (M.ok (.int 0)).bind fun x249 => (liftO (gtB x248 x249)).bind fun d250 => M.ok d250).bind fun x251 => if x251 = true then ((M.ok q147.2).bind fun x252 => (M.ok (.int 0)).bind fun x253 => (liftO (gtB x252 x253)).bind fun d254 => M.ok d254) else M.ok false).bind fun t256 => if t256 = true then ((((M.ok v1).bind fun x257 => (M.ok ()).bind fun x258 => ((M.ok q147.1).bind fun x259 => (intM x259).bind fun i260 => M.ok i260).bind fun x261 => (liftS (cutF x257 none (some x261))).bind fun d262 => M.ok d262).bind fun x263 => ((M.ok v1).bind fun x264 => ((M.ok q147.2).bind fun x265 => (intM x265).bind fun i266 => M.ok i266).bind fun x267 => (((M.ok q147.2).bind fun x268 => (M.ok (.int 1)).bind fun x269 => (liftS (addS x268 x269)).bind fun d270 => M.ok d270).bind fun x271 => (intM x271).bind fun i272 => M.ok i272).bind fun x273 => (liftS (cutF x264 (some x267) (some x273))).bind fun d274 => M.ok d274).bind fun x275 => (liftS (addS x263 x275)).bind fun d276 => M.ok d276).bind fun x277 => ((M.ok v1).bind fun x278 => (((M.ok q147.1).bind fun x279 => (M.ok (.int 1)).bind fun x280 => (liftS (addS x279 x280)).bind fun d281 => M.ok d281).bind fun x282 => (intM x282).bind fun i283 => M.ok i283).bind fun x284 => (M.ok ()).bind fun x285 => (liftS (cutF x278 (some x284) none)).bind fun d286 => M.ok d286).bind fun x287 => (liftS (addS x277 x287)).bind fun d288 => M.ok d288) else (M.ok v1)).bind fun a291 => M.ok (a291, a146.2)))))))).noX
def mc__law_turned_about (ds : List D) : M (D × D) := match ds with
  | [v0, v1] => mb__law_turned_about v0 v1
  | _ => .err
def m__law_turned_about : List D → M (D × D) := mc__law_turned_about
theorem mdb__law_turned_about (v0 v1 : D) : Fr1 (mb__law_turned_about v0 v1) (fnD 9 [0] b__law_turned_about [v0, v1]) := fr1_of (n := 9) (d := v0) (ds := [v1]) (by delta b__law_turned_about; exact (rt_seq (rt_asg (i := 2) kdVa (es_call0 (md__law_ints 40) (el_cons0 (ed_varS (i := 1) (by rfl)) (fun x1 => el_nil))) (fun _ _ _ _ => trivial) (by intros; rfl) (fun a5 => (rk_of (rt_seq (rt_asg (i := 3) kdVa (es_callR (i := 0) (w := fun (x8 : List D) => v0) (v := fun (q : D × D) => q.1) (ρ' := fun (q : D × D) => [.rf q.2, .sh v1, .va a5, .em, .em, .em, .em, .em, .em]) md__law_next (by rfl) (el_cons0 ed_con (fun x6 => el_nil)) (by intros; rfl) (by intros; exact ⟨rfl, rfl⟩)) (fun _ _ _ _ => trivial) (by intros; rfl) (fun a10 => (rk_of (rt_seq (rt_if (ed_andL (v := fun (q : Bool) => q) (ρ' := fun _ => [.rf a10.2, .sh v1, .va a5, .va a10.1, .em, .em, .em, .em, .em]) (ed_binB0 (ed_bor (i := 3) (by rfl)) (fun x11 => ed_con)) (fun x14 => (ed_binB0 (ed_bor (i := 2) (by rfl)) (fun x15 => (ed_fz kdFo (es_lst el_nil))))) (by intros; rfl) (fun x14 => by (first | exact LeE.refl _ | (unfold LeE; (repeat' (first | exact All2.nil | refine All2.cons ?_ ?_)) <;> first | exact trivial | exact rfl | exact Or.inl rfl | exact Or.inr (Or.inl rfl) | exact Or.inr (Or.inr (Or.inl rfl)) | exact Or.inr (Or.inr (Or.inr rfl)) | exact Or.inr ⟨rfl, rfl⟩ | exact Or.inr (Or.inl ⟨rfl, rfl⟩) | exact Or.inr (Or.inr ⟨rfl, rfl⟩))))) (fun _ _ _ _ => trivial) (fun t19 => (rt_seq (rt_asg (i := 4) kdSh (es_sh (ed_bin (v := fun (q : D × D) => q.1) (ρ' := fun (q : D × D) => [.rf q.2, .sh v1, .sh a5, .va a10.1, .em, .em, .em, .em, .em]) (ed_var (i := 2) (by rfl)) (fun x20 => (ed_fz kdVa (es_callR (i := 0) (w := fun (x27 : List D) => a10.2) (v := fun (q : D × D) => q.1) (ρ' := fun (q : D × D) => [.rf q.2, .sh v1, .sh a5, .va a10.1, .em, .em, .em, .em, .em]) md__law_next (by rfl) (el_cons0 (ed_ops0 (el_cons0 (ed_bor (i := 2) (by rfl)) (fun x21 => el_nil))) (fun x25 => el_nil)) (by intros; rfl) (by intros; exact ⟨rfl, rfl⟩)))) (by intros; exact ⟨rfl, rfl⟩))) (fun _ _ _ _ => trivial) (by intros; rfl) (fun a31 => (rk_of (rt_seq (rt_asg (i := 5) kdVa (es_ifc (v := fun (q : D × D) => q.1) (ρ' := fun (q : D × D) => [.rf q.2, .sh v1, .sh a5, .va a10.1, .sh a31.1, .em, .em, .em, .em]) (ed_binB0 (ed_bor (i := 3) (by rfl)) (fun x32 => ed_con)) (fun t35 => (es_to (v := fun (q : D × D) => q.1) (ρ' := fun (q : D × D) => [.rf q.2, .sh v1, .sh a5, .va a10.1, .sh a31.1, .em, .em, .em, .em]) (es_va kdFo (es_bin0 fo_add (ed_bor (i := 4) (by rfl)) (fun x36 => ed_con))) (by intros; rfl) (fun x50 => by (first | exact LeE.refl _ | (unfold LeE; (repeat' (first | exact All2.nil | refine All2.cons ?_ ?_)) <;> first | exact trivial | exact rfl | exact Or.inl rfl | exact Or.inr (Or.inl rfl) | exact Or.inr (Or.inr (Or.inl rfl)) | exact Or.inr (Or.inr (Or.inr rfl)) | exact Or.inr ⟨rfl, rfl⟩ | exact Or.inr (Or.inl ⟨rfl, rfl⟩) | exact Or.inr (Or.inr ⟨rfl, rfl⟩)))))) (fun t35 => (es_to (v := fun (q : D × D) => q.1) (ρ' := fun (q : D × D) => [.rf q.2, .sh v1, .sh a5, .va a10.1, .sh a31.1, .em, .em, .em, .em]) (es_va kdSh (es_sh (ed_bin (v := fun (q : D × D) => q.1) (ρ' := fun (q : D × D) => [.rf q.2, .sh v1, .sh a5, .va a10.1, .sh a31.1, .em, .em, .em, .em]) (ed_varS (i := 2) (by rfl)) (fun x39 => (ed_fz kdVa (es_callR (i := 0) (w := fun (x46 : List D) => a31.2) (v := fun (q : D × D) => q.1) (ρ' := fun (q : D × D) => [.rf q.2, .sh v1, .sh a5, .va a10.1, .sh a31.1, .em, .em, .em, .em]) md__law_next (by rfl) (el_cons0 (ed_ops0 (el_cons0 (ed_bor (i := 2) (by rfl)) (fun x40 => el_nil))) (fun x44 => el_nil)) (by intros; rfl) (by intros; exact ⟨rfl, rfl⟩)))) (by intros; exact ⟨rfl, rfl⟩)))) (by intros; rfl) (fun x51 => by (first | exact LeE.refl _ | (unfold LeE; (repeat' (first | exact All2.nil | refine All2.cons ?_ ?_)) <;> first | exact trivial | exact rfl | exact Or.inl rfl | exact Or.inr (Or.inl rfl) | exact Or.inr (Or.inr (Or.inl rfl)) | exact Or.inr (Or.inr (Or.inr rfl)) | exact Or.inr ⟨rfl, rfl⟩ | exact Or.inr (Or.inl ⟨rfl, rfl⟩) | exact Or.inr (Or.inr ⟨rfl, rfl⟩))))))) (fun _ _ _ _ => trivial) (by intros; rfl) (fun a52 => (rk_of (rt_ret1 rfl (e := fun (a61 : D) => a52.2) kdVa (es_call0 (md__law_exchanged 40) (el_cons0 (ed_varS (i := 1) (by rfl)) (fun x53 => (el_cons0 (ed_varS (i := 4) (by rfl)) (fun x54 => (el_cons0 (ed_var (i := 5) (by rfl)) (fun x55 => el_nil))))))) (fun _ _ _ _ => trivial) (by intros; rfl))))))))))) (fun t19 => (rt_skip (rk_of (rt_seq (rt_if (ed_binB0 (ed_bor (i := 3) (by rfl)) (fun x62 => ed_con)) (fun _ _ _ _ => trivial) (fun t65 => (rt_ret1 rfl (e := fun (a125 : D × D) => a125.2) kdFo (es_bin (v := fun (q : D × D) => q.1) (ρ' := fun (q : D × D) => [.rf q.2, .sh v1, .va a5, .va a10.1, .em, .em, .em, .em, .em]) fo_add (ed_fz kdFo (es_slc0 fo_cut (ed_bor (i := 1) (by rfl)) (fun x66 => eo_no) (fun x66 x67 => (eo_at0 ed_con)))) (fun x72 => (ed_fz kdVa (es_ifc (v := fun (q : D × D) => q.1) (ρ' := fun (q : D × D) => [.rf q.2, .sh v1, .va a5, .va a10.1, .em, .em, .em, .em, .em]) (ed_binB0 (ed_ops0 (el_cons0 (ed_bor (i := 1) (by rfl)) (fun x73 => el_nil))) (fun x77 => ed_con)) (fun t80 => (es_to (v := fun (q : D × D) => q.1) (ρ' := fun (q : D × D) => [.rf q.2, .sh v1, .va a5, .va a10.1, .em, .em, .em, .em, .em]) (es_callR (i := 0) (w := fun (x89 : List D) => a10.2) (v := fun (q : D × D) => q.1) (ρ' := fun (q : D × D) => [.rf q.2, .sh v1, .va a5, .va a10.1, .em, .em, .em, .em, .em]) (md__law_cut 40) (by rfl) (el_cons0 (ed_fz kdFo (es_slc0 fo_cut (ed_bor (i := 1) (by rfl)) (fun x81 => (eo_at0 ed_con)) (fun x81 x84 => eo_no))) (fun x87 => el_nil)) (by intros; rfl) (by intros; exact ⟨rfl, rfl⟩)) (by intros; rfl) (fun x121 => by (first | exact LeE.refl _ | (unfold LeE; (repeat' (first | exact All2.nil | refine All2.cons ?_ ?_)) <;> first | exact trivial | exact rfl | exact Or.inl rfl | exact Or.inr (Or.inl rfl) | exact Or.inr (Or.inr (Or.inl rfl)) | exact Or.inr (Or.inr (Or.inr rfl)) | exact Or.inr ⟨rfl, rfl⟩ | exact Or.inr (Or.inl ⟨rfl, rfl⟩) | exact Or.inr (Or.inr ⟨rfl, rfl⟩)))))) (fun t80 => (es_to (v := fun (q : D × D) => q.1) (ρ' := fun (q : D × D) => [.rf q.2, .sh v1, .va a5, .va a10.1, .em, .em, .em, .em, .em]) (es_va kdSh (es_sh (ed_ops (v := fun (q : D × D) => q.1) (ρ' := fun (q : D × D) => [.rf q.2, .sh v1, .va a5, .va a10.1, .em, .em, .em, .em, .em]) (el_cons (v := fun (q : List D × D) => q.1) (ρ' := fun (q : List D × D) => [.rf q.2, .sh v1, .va a5, .va a10.1, .em, .em, .em, .em, .em]) (ed_fz kdFo (es_lcT2 (vs := [8]) (v := fun (q : List D × D) => .list q.1) (ρ' := fun (q : List D × D) => [.rf q.2, .sh v1, .va a5, .va a10.1, .em, .em, .em, .em, .em]) (fun (l99 : List D) (b109 : D) => [.rf b109, .sh v1, .va a5, .va a10.1, .em, .em, .em, .em, .em]) (fun (l99 : List D) => a10.2) (ei_seq0 (ed_fz kdFo (es_slc0 fo_cut (ed_bor (i := 1) (by rfl)) (fun x91 => (eo_at0 ed_con)) (fun x91 x94 => eo_no)))) (fun l99 => by (first | exact LeE.refl _ | (unfold LeE; (repeat' (first | exact All2.nil | refine All2.cons ?_ ?_)) <;> first | exact trivial | exact rfl | exact Or.inl rfl | exact Or.inr (Or.inl rfl) | exact Or.inr (Or.inr (Or.inl rfl)) | exact Or.inr (Or.inr (Or.inr rfl)) | exact Or.inr ⟨rfl, rfl⟩ | exact Or.inr (Or.inl ⟨rfl, rfl⟩) | exact Or.inr (Or.inr ⟨rfl, rfl⟩)))) (by intros; rfl) (fun _ _ _ => by (first | exact Nxt.refl _ | (unfold Nxt; (repeat' (first | exact All2.nil | refine All2.cons ?_ ?_)) <;> first | exact Or.inl rfl | exact Or.inr (Or.inl ⟨_, _, rfl, rfl⟩) | exact Or.inr (Or.inr ⟨_, _, rfl, rfl⟩)))) (by intros; rfl) (fun _ _ i hi => by revert i; simp) (fun l99 b109 d100 => (gt_name (vs := [8]) (i := 8) (by decide) (by rfl))) (fun l99 b109 d100 t110 => (ed_fz kdVa (es_callR (i := 0) (w := fun (x114 : List D) => b109) (v := fun (q : D × D) => q.1) (ρ' := fun (q : D × D) => [.rf q.2, .sh v1, .br a5, .br a10.1, .em, .em, .em, .em, .sh d100]) (md__law_cut 40) (by rfl) (el_cons0 (ed_varS (i := 8) (by rfl)) (fun x112 => el_nil)) (by intros; rfl) (by intros; exact ⟨rfl, rfl⟩)))) (by intros; rfl) (by intros; exact ⟨rfl, rfl⟩))) (fun x117 => el_nil) (by intros; exact ⟨rfl, rfl⟩)) (by intros; exact ⟨rfl, rfl⟩)))) (by intros; rfl) (fun x122 => by (first | exact LeE.refl _ | (unfold LeE; (repeat' (first | exact All2.nil | refine All2.cons ?_ ?_)) <;> first | exact trivial | exact rfl | exact Or.inl rfl | exact Or.inr (Or.inl rfl) | exact Or.inr (Or.inr (Or.inl rfl)) | exact Or.inr (Or.inr (Or.inr rfl)) | exact Or.inr ⟨rfl, rfl⟩ | exact Or.inr (Or.inl ⟨rfl, rfl⟩) | exact Or.inr (Or.inr ⟨rfl, rfl⟩))))))))) (by intros; exact ⟨rfl, rfl⟩)) (fun _ _ _ _ => trivial) (by intros; rfl))) (fun t65 => (rt_skip (rk_of (rt_seq (rt_par (i := 6) (j := 7) (el_cons (v := fun (q : List D × D) => q.1) (ρ' := fun (q : List D × D) => [.rf q.2, .sh v1, .va a5, .va a10.1, .em, .em, .em, .em, .em]) (ed_fz kdVa (es_callR (i := 0) (w := fun (x132 : List D) => a10.2) (v := fun (q : D × D) => q.1) (ρ' := fun (q : D × D) => [.rf q.2, .sh v1, .va a5, .va a10.1, .em, .em, .em, .em, .em]) md__law_next (by rfl) (el_cons0 (ed_ops0 (el_cons0 (ed_bor (i := 1) (by rfl)) (fun x126 => el_nil))) (fun x130 => el_nil)) (by intros; rfl) (by intros; exact ⟨rfl, rfl⟩))) (fun x134 => (el_cons (v := fun (q : List D × D) => q.1) (ρ' := fun (q : List D × D) => [.rf q.2, .sh v1, .va a5, .va a10.1, .em, .em, .em, .em, .em]) (ed_fz kdVa (es_callR (i := 0) (w := fun (x141 : List D) => x134.2) (v := fun (q : D × D) => q.1) (ρ' := fun (q : D × D) => [.rf q.2, .sh v1, .va a5, .va a10.1, .em, .em, .em, .em, .em]) md__law_next (by rfl) (el_cons0 (ed_ops0 (el_cons0 (ed_bor (i := 1) (by rfl)) (fun x135 => el_nil))) (fun x139 => el_nil)) (by intros; rfl) (by intros; exact ⟨rfl, rfl⟩))) (fun x143 => el_nil) (by intros; exact ⟨rfl, rfl⟩))) (by intros; exact ⟨rfl, rfl⟩)) (fun _ _ _ _ => trivial) (by intros; rfl) (by intros; rfl) (fun a146 q147 => (rk_of (rt_seq (rt_if (ed_andL (v := fun (q : Bool) => q) (ρ' := fun _ => [.rf a146.2, .sh v1, .va a5, .va a10.1, .em, .em, .sh q147.1, .sh q147.2, .em]) (ed_binB0 (ed_ops0 (el_cons0 (ed_bor (i := 1) (by rfl)) (fun x148 => el_nil))) (fun x152 => ed_con)) (fun x155 => (ed_andL (v := fun (q : Bool) => q) (ρ' := fun _ => [.rf a146.2, .sh v1, .va a5, .va a10.1, .em, .em, .sh q147.1, .sh q147.2, .em]) (ed_tru0 (ed_isi (ed_bin0 (ed_bor (i := 1) (by rfl)) (fun x156 => ed_con)))) (fun x161 => (ed_binB0 (ed_bin0 (ed_bor (i := 1) (by rfl)) (fun x162 => ed_con)) (fun x165 => (ed_tup el_nil)))) (by intros; rfl) (fun x161 => by (first | exact LeE.refl _ | (unfold LeE; (repeat' (first | exact All2.nil | refine All2.cons ?_ ?_)) <;> first | exact trivial | exact rfl | exact Or.inl rfl | exact Or.inr (Or.inl rfl) | exact Or.inr (Or.inr (Or.inl rfl)) | exact Or.inr (Or.inr (Or.inr rfl)) | exact Or.inr ⟨rfl, rfl⟩ | exact Or.inr (Or.inl ⟨rfl, rfl⟩) | exact Or.inr (Or.inr ⟨rfl, rfl⟩)))))) (by intros; rfl) (fun x155 => by (first | exact LeE.refl _ | (unfold LeE; (repeat' (first | exact All2.nil | refine All2.cons ?_ ?_)) <;> first | exact trivial | exact rfl | exact Or.inl rfl | exact Or.inr (Or.inl rfl) | exact Or.inr (Or.inr (Or.inl rfl)) | exact Or.inr (Or.inr (Or.inr rfl)) | exact Or.inr ⟨rfl, rfl⟩ | exact Or.inr (Or.inl ⟨rfl, rfl⟩) | exact Or.inr (Or.inr ⟨rfl, rfl⟩))))) (fun _ _ _ _ => trivial) (fun t170 => (rt_seq (rt_par (i := 6) (j := 7) (el_cons (v := fun (q : List D × D) => q.1) (ρ' := fun (q : List D × D) => [.rf q.2, .sh v1, .va a5, .va a10.1, .em, .em, .sh q147.1, .sh q147.2, .em]) (ed_fz kdVa (es_callR (i := 0) (w := fun (x180 : List D) => a146.2) (v := fun (q : D × D) => q.1) (ρ' := fun (q : D × D) => [.rf q.2, .sh v1, .va a5, .va a10.1, .em, .em, .sh q147.1, .sh q147.2, .em]) md__law_next (by rfl) (el_cons0 (ed_ops0 (el_cons0 (ed_bin0 (ed_bor (i := 1) (by rfl)) (fun x171 => ed_con)) (fun x174 => el_nil))) (fun x178 => el_nil)) (by intros; rfl) (by intros; exact ⟨rfl, rfl⟩))) (fun x182 => (el_cons (v := fun (q : List D × D) => q.1) (ρ' := fun (q : List D × D) => [.rf q.2, .sh v1, .va a5, .va a10.1, .em, .em, .sh q147.1, .sh q147.2, .em]) (ed_fz kdVa (es_callR (i := 0) (w := fun (x192 : List D) => x182.2) (v := fun (q : D × D) => q.1) (ρ' := fun (q : D × D) => [.rf q.2, .sh v1, .va a5, .va a10.1, .em, .em, .sh q147.1, .sh q147.2, .em]) md__law_next (by rfl) (el_cons0 (ed_ops0 (el_cons0 (ed_bin0 (ed_bor (i := 1) (by rfl)) (fun x183 => ed_con)) (fun x186 => el_nil))) (fun x190 => el_nil)) (by intros; rfl) (by intros; exact ⟨rfl, rfl⟩))) (fun x194 => el_nil) (by intros; exact ⟨rfl, rfl⟩))) (by intros; exact ⟨rfl, rfl⟩)) (fun _ _ _ _ => trivial) (by intros; rfl) (by intros; rfl) (fun a197 q198 => (rk_of (rt_ret1 rfl (e := fun (a247 : List D) => a197.2) kdSh (es_sh (ed_tup (el_cons0 (ed_bin0 (ed_bor (i := 1) (by rfl)) (fun x199 => ed_con)) (fun x202 => (el_cons0 (ed_fz kdFo (es_bin0 fo_add (ed_fz kdFo (es_bin0 fo_add (ed_fz kdFo (es_slc0 fo_cut (ed_bin0 (ed_bor (i := 1) (by rfl)) (fun x203 => ed_con)) (fun x206 => eo_no) (fun x206 x207 => (eo_at0 (ed_bor (i := 6) (by rfl)))))) (fun x212 => (ed_fz kdFo (es_slc0 fo_cut (ed_bin0 (ed_bor (i := 1) (by rfl)) (fun x213 => ed_con)) (fun x216 => (eo_at0 (ed_bor (i := 7) (by rfl)))) (fun x216 x219 => (eo_at0 (ed_fz kdFo (es_bin0 fo_add (ed_bor (i := 7) (by rfl)) (fun x220 => ed_con)))))))))) (fun x229 => (ed_fz kdFo (es_slc0 fo_cut (ed_bin0 (ed_bor (i := 1) (by rfl)) (fun x230 => ed_con)) (fun x233 => (eo_at0 (ed_fz kdFo (es_bin0 fo_add (ed_bor (i := 6) (by rfl)) (fun x234 => ed_con))))) (fun x233 x239 => eo_no)))))) (fun x244 => el_nil)))))) (fun _ _ _ _ => trivial) (by intros; rfl))))))) (fun t170 => (rt_skip (rk_of (rt_ret1 rfl (e := fun (a291 : D) => a146.2) kdVa (es_ifc (v := fun (q : D) => q) (ρ' := fun _ => [.rf a146.2, .sh v1, .va a5, .va a10.1, .em, .em, .sh q147.1, .sh q147.2, .em]) (ed_andL (v := fun (q : Bool) => q) (ρ' := fun _ => [.rf a146.2, .sh v1, .va a5, .va a10.1, .em, .em, .sh q147.1, .sh q147.2, .em]) (ed_binB0 (ed_bor (i := 6) (by rfl)) (fun x248 => ed_con)) (fun x251 => (ed_binB0 (ed_bor (i := 7) (by rfl)) (fun x252 => ed_con))) (by intros; rfl) (fun x251 => by (first | exact LeE.refl _ | (unfold LeE; (repeat' (first | exact All2.nil | refine All2.cons ?_ ?_)) <;> first | exact trivial | exact rfl | exact Or.inl rfl | exact Or.inr (Or.inl rfl) | exact Or.inr (Or.inr (Or.inl rfl)) | exact Or.inr (Or.inr (Or.inr rfl)) | exact Or.inr ⟨rfl, rfl⟩ | exact Or.inr (Or.inl ⟨rfl, rfl⟩) | exact Or.inr (Or.inr ⟨rfl, rfl⟩))))) (fun t256 => (es_va kdFo (es_bin0 fo_add (ed_fz kdFo (es_bin0 fo_add (ed_fz kdFo (es_slc0 fo_cut (ed_bor (i := 1) (by rfl)) (fun x257 => eo_no) (fun x257 x258 => (eo_at0 (ed_bor (i := 6) (by rfl)))))) (fun x263 => (ed_fz kdFo (es_slc0 fo_cut (ed_bor (i := 1) (by rfl)) (fun x264 => (eo_at0 (ed_bor (i := 7) (by rfl)))) (fun x264 x267 => (eo_at0 (ed_fz kdFo (es_bin0 fo_add (ed_bor (i := 7) (by rfl)) (fun x268 => ed_con)))))))))) (fun x277 => (ed_fz kdFo (es_slc0 fo_cut (ed_bor (i := 1) (by rfl)) (fun x278 => (eo_at0 (ed_fz kdFo (es_bin0 fo_add (ed_bor (i := 6) (by rfl)) (fun x279 => ed_con))))) (fun x278 x284 => eo_no))))))) (fun t256 => (es_va kdSh (es_sh (ed_varS (i := 1) (by rfl)))))) (fun _ _ _ _ => trivial) (by intros; rfl))))))))))))))))))))))))))))))
theorem md__law_turned_about (ds : List D) : Fr1 (m__law_turned_about ds) (d__law_turned_about ds) := match ds with
    | [v0, v1] => mdb__law_turned_about v0 v1
    | [] => trivial
    | [_] => trivial
    | _ :: _ :: _ :: _ => trivial
def mb__law_odd (v0 v1 : D) : M (D × D) :=
  (((M.ok .none).bind fun x1 => ((M.ok (.str "")).bind fun x2 => ((M.ok (.str "yes")).bind fun x3 => ((M.ok ()).bind fun x4 => ((M.ok []).bind fun x5 => (((M.ok v1).bind fun x6 => (M.ok ()).bind fun x7 => ((M.ok (.int 1)).bind fun x8 => (intM x8).bind fun i9 => M.ok i9).bind fun x10 => (liftS (cutF x6 none (some x10))).bind fun d11 => M.ok d11).bind fun x12 => ((((M.ok v1).bind fun x13 => (M.ok []).bind fun x14 => M.ok (x13 :: x14)).bind fun x15 => (liftS (listF x15)).bind fun d16 => M.ok d16).bind fun x17 => (((M.ok v1).bind fun x18 => ((M.ok (.int 0)).bind fun x19 => (M.ok []).bind fun x20 => M.ok (x19 :: x20)).bind fun x21 => (liftS (addS x18 (.tuple x21))).bind fun d22 => M.ok d22).bind fun x23 => ((((((M.ok v1).bind fun x24 => (M.ok (.int 0)).bind fun x25 => (liftO (ixD x24 x25)).bind fun d26 => M.ok d26).bind fun x27 => (M.ok []).bind fun x28 => M.ok (x27 :: x28)).bind fun x29 => (M.ok []).bind fun x30 => M.ok ((.list x29) :: x30)).bind fun x31 => ((M.ok v1).bind fun x32 => ((M.ok (.int 1)).bind fun x33 => (intM x33).bind fun i34 => M.ok i34).bind fun x35 => (M.ok ()).bind fun x36 => (liftS (cutF x32 (some x35) none)).bind fun d37 => M.ok d37).bind fun x38 => (liftS (addS (.tuple x31) x38)).bind fun d39 => M.ok d39).bind fun x40 => ((((M.ok (.str "none such")).bind fun x41 => (M.ok []).bind fun x42 => M.ok (x41 :: x42)).bind fun x43 => ((M.ok v1).bind fun x44 => ((M.ok (.int 1)).bind fun x45 => (intM x45).bind fun i46 => M.ok i46).bind fun x47 => (M.ok ()).bind fun x48 => (liftS (cutF x44 (some x47) none)).bind fun d49 => M.ok d49).bind fun x50 => (liftS (addS (.tuple x43) x50)).bind fun d51 => M.ok d51).bind fun x52 => ((M.ok (.int 7)).bind fun x53 => (M.ok []).bind fun x54 => M.ok (x53 :: x54)).bind fun x55 => M.ok (x52 :: x55)).bind fun x56 => M.ok (x40 :: x56)).bind fun x57 => M.ok (x23 :: x57)).bind fun x58 => M.ok (x17 :: x58)).bind fun x59 => M.ok (x12 :: x59)).bind fun x60 => M.ok ((.tuple x5) :: x60)).bind fun x61 => M.ok ((.dict []) :: x61)).bind fun x62 => M.ok (x3 :: x62)).bind fun x63 => M.ok (x2 :: x63)).bind fun x64 => M.ok (x1 :: x64)).bind fun a65 => ((((M.ok (.int 9)).bind fun x66 => (M.ok []).bind fun x67 => M.ok (x66 :: x67)).bind fun x68 => (m__law_next (v0 :: x68)).bind fun r69 => M.ok r69).bind fun a70 => (((M.ok a70.1).bind fun x71 => (M.ok (.int 4)).bind fun x72 => (liftO (gtB x71 x72)).bind fun d73 => M.ok d73).bind fun t74 => if t74 = true then ((((M.ok v1).bind fun x75 => (M.ok []).bind fun x76 => M.ok (x75 :: x76)).bind fun x77 => (m__law_turned_about (a70.2 :: x77)).bind fun r78 => M.ok r78).bind fun a79 => M.ok (a79.1, a79.2)) else ((((M.ok a70.1).bind fun x80 => (M.ok (.int 0)).bind fun x81 => (liftO (eqB x80 x81)).bind fun d82 => M.ok d82).bind fun t83 => if t83 = true then (((M.ok (.list a65)).bind fun x84 => (((((M.ok (.list a65)).bind fun x85 => (M.ok []).bind fun x86 => M.ok (x85 :: x86)).bind fun x87 => (liftO (lenD x87)).bind fun d88 => M.ok d88).bind fun x89 => (M.ok []).bind fun x90 => M.ok (x89 :: x90)).bind fun x91 => (m__law_next (a70.2 :: x91)).bind fun r92 => M.ok r92).bind fun x93 => (liftO (ixD x84 x93.1)).bind fun d94 => M.ok (d94, x93.2)).bind fun x99 => M.ok (x99.1, x99.2)) else ((((M.ok v1).bind fun x95 => (M.ok []).bind fun x96 => M.ok (x95 :: x96)).bind fun x97 => ((m__law_changed 40) (a70.2 :: x97)).bind fun r98 => M.ok r98).bind fun x100 => M.ok (x100.1, x100.2))).bind fun a101 => M.ok (a101.1, a101.2))))).noX
def mc__law_odd (ds : List D) : M (D × D) := match ds with
  | [v0, v1] => mb__law_odd v0 v1
  | _ => .err
def m__law_odd : List D → M (D × D) := mc__law_odd
theorem mdb__law_odd (v0 v1 : D) : Fr1 (mb__law_odd v0 v1) (fnD 4 [0] b__law_odd [v0, v1]) := fr1_of (n := 4) (d := v0) (ds := [v1]) (by delta b__law_odd; exact (rt_seq (rt_asg (i := 2) kdFo (es_lst (el_cons0 ed_con (fun x1 => (el_cons0 ed_con (fun x2 => (el_cons0 ed_con (fun x3 => (el_cons0 (ed_fz kdFo es_dct) (fun x4 => (el_cons0 (ed_tup el_nil) (fun x5 => (el_cons0 (ed_fz kdFo (es_slc0 fo_cut (ed_bor (i := 1) (by rfl)) (fun x6 => eo_no) (fun x6 x7 => (eo_at0 ed_con)))) (fun x12 => (el_cons0 (ed_fz kdFo (es_ops0 fo_listF (el_cons0 (ed_bor (i := 1) (by rfl)) (fun x13 => el_nil)))) (fun x17 => (el_cons0 (ed_fz kdFo (es_bin0 fo_add (ed_bor (i := 1) (by rfl)) (fun x18 => (ed_tup (el_cons0 ed_con (fun x19 => el_nil)))))) (fun x23 => (el_cons0 (ed_fz kdFo (es_bin0 fo_add (ed_tup (el_cons0 (ed_fz kdFo (es_lst (el_cons0 (ed_bin0 (ed_bor (i := 1) (by rfl)) (fun x24 => ed_con)) (fun x27 => el_nil)))) (fun x29 => el_nil))) (fun x31 => (ed_fz kdFo (es_slc0 fo_cut (ed_bor (i := 1) (by rfl)) (fun x32 => (eo_at0 ed_con)) (fun x32 x35 => eo_no)))))) (fun x40 => (el_cons0 (ed_fz kdFo (es_bin0 fo_add (ed_tup (el_cons0 ed_con (fun x41 => el_nil))) (fun x43 => (ed_fz kdFo (es_slc0 fo_cut (ed_bor (i := 1) (by rfl)) (fun x44 => (eo_at0 ed_con)) (fun x44 x47 => eo_no)))))) (fun x52 => (el_cons0 ed_con (fun x53 => el_nil))))))))))))))))))))))) (fun _ _ _ _ => trivial) (by intros; rfl) (fun a65 => (rk_of (rt_seq (rt_asg (i := 3) kdVa (es_callR (i := 0) (w := fun (x68 : List D) => v0) (v := fun (q : D × D) => q.1) (ρ' := fun (q : D × D) => [.rf q.2, .sh v1, .fo (.list a65), .em]) md__law_next (by rfl) (el_cons0 ed_con (fun x66 => el_nil)) (by intros; rfl) (by intros; exact ⟨rfl, rfl⟩)) (fun _ _ _ _ => trivial) (by intros; rfl) (fun a70 => (rk_of (rt_seq (rt_if (ed_binB0 (ed_bor (i := 3) (by rfl)) (fun x71 => ed_con)) (fun _ _ _ _ => trivial) (fun t74 => (rt_ret1 rfl (e := fun (a79 : D × D) => a79.2) kdVa (es_callR (i := 0) (w := fun (x77 : List D) => a70.2) (v := fun (q : D × D) => q.1) (ρ' := fun (q : D × D) => [.rf q.2, .sh v1, .fo (.list a65), .va a70.1]) md__law_turned_about (by rfl) (el_cons0 (ed_varS (i := 1) (by rfl)) (fun x75 => el_nil)) (by intros; rfl) (by intros; exact ⟨rfl, rfl⟩)) (fun _ _ _ _ => trivial) (by intros; rfl))) (fun t74 => (rt_skip (rk_of (rt_ret1 rfl (e := fun (a101 : D × D) => a101.2) kdVa (es_ifc (v := fun (q : D × D) => q.1) (ρ' := fun (q : D × D) => [.rf q.2, .sh v1, .va (.list a65), .va a70.1]) (ed_binB0 (ed_bor (i := 3) (by rfl)) (fun x80 => ed_con)) (fun t83 => (es_to (v := fun (q : D × D) => q.1) (ρ' := fun (q : D × D) => [.rf q.2, .sh v1, .va (.list a65), .va a70.1]) (es_va kdSh (es_sh (ed_bin (v := fun (q : D × D) => q.1) (ρ' := fun (q : D × D) => [.rf q.2, .sh v1, .sh (.list a65), .va a70.1]) (ed_var (i := 2) (by rfl)) (fun x84 => (ed_fz kdVa (es_callR (i := 0) (w := fun (x91 : List D) => a70.2) (v := fun (q : D × D) => q.1) (ρ' := fun (q : D × D) => [.rf q.2, .sh v1, .sh (.list a65), .va a70.1]) md__law_next (by rfl) (el_cons0 (ed_ops0 (el_cons0 (ed_bor (i := 2) (by rfl)) (fun x85 => el_nil))) (fun x89 => el_nil)) (by intros; rfl) (by intros; exact ⟨rfl, rfl⟩)))) (by intros; exact ⟨rfl, rfl⟩)))) (by intros; rfl) (fun x99 => by (first | exact LeE.refl _ | (unfold LeE; (repeat' (first | exact All2.nil | refine All2.cons ?_ ?_)) <;> first | exact trivial | exact rfl | exact Or.inl rfl | exact Or.inr (Or.inl rfl) | exact Or.inr (Or.inr (Or.inl rfl)) | exact Or.inr (Or.inr (Or.inr rfl)) | exact Or.inr ⟨rfl, rfl⟩ | exact Or.inr (Or.inl ⟨rfl, rfl⟩) | exact Or.inr (Or.inr ⟨rfl, rfl⟩)))))) (fun t83 => (es_to (v := fun (q : D × D) => q.1) (ρ' := fun (q : D × D) => [.rf q.2, .sh v1, .va (.list a65), .va a70.1]) (es_callR (i := 0) (w := fun (x97 : List D) => a70.2) (v := fun (q : D × D) => q.1) (ρ' := fun (q : D × D) => [.rf q.2, .sh v1, .fo (.list a65), .va a70.1]) (md__law_changed 40) (by rfl) (el_cons0 (ed_varS (i := 1) (by rfl)) (fun x95 => el_nil)) (by intros; rfl) (by intros; exact ⟨rfl, rfl⟩)) (by intros; rfl) (fun x100 => by (first | exact LeE.refl _ | (unfold LeE; (repeat' (first | exact All2.nil | refine All2.cons ?_ ?_)) <;> first | exact trivial | exact rfl | exact Or.inl rfl | exact Or.inr (Or.inl rfl) | exact Or.inr (Or.inr (Or.inl rfl)) | exact Or.inr (Or.inr (Or.inr rfl)) | exact Or.inr ⟨rfl, rfl⟩ | exact Or.inr (Or.inl ⟨rfl, rfl⟩) | exact Or.inr (Or.inr ⟨rfl, rfl⟩))))))) (fun _ _ _ _ => trivial) (by intros; rfl))))))))))))))))
theorem md__law_odd (ds : List D) : Fr1 (m__law_odd ds) (d__law_odd ds) := match ds with
    | [v0, v1] => mdb__law_odd v0 v1
    | [] => trivial
    | [_] => trivial
    | _ :: _ :: _ :: _ => trivial
set_option Elab.async false
set_option linter.all false
set_option maxRecDepth 100000
open PySem L2
/-- an answer of _law_next -/
def Nx (m : Int) (r : D × D) : Prop := ∃ v, r.1 = .int v ∧ 0 ≤ v ∧ v < m ∧ St r.2
theorem next_sat {s : D} (hs : St s) {m : Int} (hm : 0 < m) (hm2 : m < 1073741824) : Sat (m__law_next [s, .int m]) (Nx m) := by
  obtain ⟨cs, a, b, c, rfl, ha, hb, hc⟩ := hs
  have fin : ∀ (v a' b' c' : Int), 0 ≤ a' → 0 ≤ b' → 0 ≤ c' → Nx m (.int (v % m), stD cs a' b' c') :=
    fun v a' b' c' h1 h2 h3 => ⟨_, rfl, Int.emod_nonneg _ (by omega), Int.emod_lt_of_pos _ hm, cs, a', b', c', rfl, h1, h2, h3⟩
  have hd : ∀ x : Int, 0 ≤ x → 0 ≤ x / m := fun x hx => Int.ediv_nonneg hx (by omega)
  have hp : ∀ x : Int, 0 ≤ x % 2147483647 := fun x => Int.emod_nonneg _ (by omega)
  show Sat (mb__law_next _ _) _
  unfold mb__law_next stD
  by_cases h1 : b = 0 ∧ a < cs.length
  · obtain ⟨rfl, h1⟩ := h1
    have hcell : ∃ x, cs[a.toNat]? = some x := ⟨cs[a.toNat]'(by omega), List.getElem?_eq_getElem _⟩
    obtain ⟨x, hx⟩ := hcell
    have hx' : atI (cs.map PyData.int) a = some (.int x) := by rw [zatI_nat a ha, List.getElem?_map, hx]; rfl
    by_cases h2 : (1000000000000000000 : Int) ≤ x
    · have h3 : 0 < x := by omega
      simp [h1, h2, h3, hm, hm2, hx', ixN]
      exact fin _ _ _ _ (by omega) (hd x (by omega)) hc
    · simp [h1, h2, hm, hm2, hx', ixN]
      exact fin _ _ _ _ (by omega) (by omega) (hp _)
  · have h1' : ¬ (b = 0) ∨ ¬ a < cs.length := by
      by_cases hb0 : b = 0
      · exact .inr fun z => h1 ⟨hb0, z⟩
      · exact .inl hb0
    by_cases h4 : 0 < b
    · have hb0 : ¬ b = 0 := by omega
      simp [hb0, h4, hm, hm2, ixN]
      exact fin _ _ _ _ ha (hd b hb) hc
    · have hb0 : b = 0 := by omega
      subst hb0
      have h5 : ¬ a < cs.length := h1'.elim (fun z => absurd rfl z) id
      simp [h5, hm, hm2, ixN]
      exact fin _ _ _ _ ha hb (hp _)
set_option Elab.async false
set_option linter.all false
set_option maxRecDepth 100000
open PySem L2

/-! ### _law_same of what is due -/
open Classical in
/-- the two are the same datum -/
noncomputable def sameD (a e : D) : Bool := decide (a = e)
open Classical in
theorem sameD_iff {a e : D} : sameD a e = true ↔ a = e := by unfold sameD; exact decide_eq_true_iff
theorem sameD_t {a e : D} (h : a = e) : sameD a e = true := sameD_iff.mpr h
theorem sameD_f {a e : D} (h : a ≠ e) : sameD a e = false := Bool.eq_false_iff.mpr fun z => h (sameD_iff.mp z)
@[simp] theorem sameD_self {a : D} : sameD a a = true := sameD_t rfl
/-- what may be due: None, truth values, numbers, texts, and tuples of these -/
inductive Pl : D → Prop where
  | none : Pl .none
  | bool (b : Bool) : Pl (.bool b)
  | int (i : Int) : Pl (.int i)
  | str (x : Str) : Pl (.str x)
  | tuple (ds : List D) (h : ∀ d ∈ ds, Pl d) : Pl (.tuple ds)
/-- an answer: small data, or {} -/
def An (b c w n : Nat) (a : D) : Prop := a = .dict [] ∨ Tq b c w n a
theorem rngOk_n {n : Nat} (h : n ≤ 16777216) : rngOk 0 (n : Int) = true := by
  unfold rngOk
  have := sizeLine_eq
  exact decide_eq_true ⟨by omega, by omega, by omega, by omega, by omega⟩
theorem rngD_get {n i : Nat} {d : D} (h : (rngD 0 (n : Int))[i]? = some d) : i < n ∧ d = .int i := by
  unfold rngD at h
  rw [List.getElem?_map] at h
  by_cases hi : i < n
  · rw [List.getElem?_range (by omega)] at h
    have h : PyData.int (0 + (i : Int)) = d := Option.some.inj h
    exact ⟨hi, by rw [← h, Int.zero_add]⟩
  · rw [List.getElem?_eq_none (by rw [List.length_range]; omega)] at h; cases h
theorem rngD_len {n : Nat} : (rngD 0 (n : Int)).length = n := by
  unfold rngD; rw [List.length_map, List.length_range]; omega
@[simp] theorem nonB_none : nonB .none = true := rfl
@[simp] theorem nonB_bool {b : Bool} : nonB (.bool b) = false := rfl
@[simp] theorem nonB_int {i : Int} : nonB (.int i) = false := rfl
@[simp] theorem nonB_str {x : Str} : nonB (.str x) = false := rfl
@[simp] theorem nonB_list {ds : List D} : nonB (.list ds) = false := rfl
@[simp] theorem nonB_tuple {ds : List D} : nonB (.tuple ds) = false := rfl
@[simp] theorem nonB_dict {ds : List (D × D)} : nonB (.dict ds) = false := rfl
section
variable {b c w n b' c' w' n' : Nat} {r : List D → M D} {a : D} {i : Int} {x : Str} {as es : List D}
theorem same_int (ha : An b c w n a) : mb__law_same r a (.int i) = .ok (.bool (sameD a (.int i))) := by
  unfold mb__law_same
  rcases ha with rfl | ha
  · simp [sameD_f]
  cases a <;> simp [sameD_f]
  rw [Bool.eq_iff_iff, sameD_iff]; simp
theorem same_non (ha : An b c w n a) : mb__law_same r a .none = .ok (.bool (sameD a .none)) := by
  unfold mb__law_same
  rcases ha with rfl | ha
  · simp [sameD_f]
  cases a <;> simp [sameD_f]
theorem same_bl {p : Bool} (ha : An b c w n a) : mb__law_same r a (.bool p) = .ok (.bool (sameD a (.bool p))) := by
  unfold mb__law_same
  rcases ha with rfl | ha
  · simp [sameD_f]
  cases a <;> simp [sameD_f]
  rw [Bool.eq_iff_iff, sameD_iff]; simp
theorem same_st (ha : An b c w n a) (hx : PyData.strOk x = true) : mb__law_same r a (.str x) = .ok (.bool (sameD a (.str x))) := by
  unfold mb__law_same
  rcases ha with rfl | ha
  · simp [sameD_f]
  cases a <;> simp [sameD_f]
  rename_i y
  have hy : PyData.strOk y = true := plain_strOk (tq_str.mp ha).1
  simp [hx, hy]
  rw [Bool.eq_iff_iff, sameD_iff]; simp
theorem same_tup (N : Nat) (ih : ∀ {a e : D} {n m : Nat}, Tq b c w n a → Tq b' c' w' m e → Pl e → m < N → n ≤ 64 → m ≤ 64 → m__law_same N [a, e] = .ok (.bool (sameD a e)))
    (ha : Tq b c w n (.tuple as)) (he : Tq b' c' w' n' (.tuple es)) (hp : Pl (.tuple es)) (hw : w ≤ 16000000) (hw' : w' ≤ 16000000) (hn : n ≤ 64) (hm : n' < N + 1) (hm64 : n' ≤ 64) :
    mb__law_same (m__law_same N) (.tuple as) (.tuple es) = .ok (.bool (sameD (.tuple as) (.tuple es))) := by
  obtain ⟨m, u, rfl, rfl, ta⟩ := tq_tup ha
  obtain ⟨m', u', rfl, rfl, te⟩ := tq_tup he
  have hpl : ∀ d ∈ es, Pl d := by cases hp with | tuple _ h => exact h
  have la := ta.len
  have le := te.len
  unfold mb__law_same
  by_cases hl : as.length = es.length
  · have ok := rngOk_n (n := es.length) (by omega)
    simp [hl, ok]
    refine sat_eq.mp ?_
    refine Sat.bind (P := fun q => match q with
      | .inl _ => as = es
      | .inr w => w = .bool false ∧ as ≠ es) (forM_idx (fun i _ => as.take i = es.take i) (n := 0) (fun i b d hd ht => ?_) (fun _ ht => ?_) rfl) (fun q hq => ?_)
    · obtain ⟨h2, rfl⟩ := rngD_get hd
      have h1 : i < as.length := by omega
      rw [Nat.zero_add] at ht ⊢
      have e := ih ((ta.mem (List.getElem_mem h1)).mono (Nat.le_refl _) (Nat.le_refl _) (Nat.le_add_right u 4)) ((te.mem (List.getElem_mem h2)).mono (Nat.le_refl _) (Nat.le_refl _) (Nat.le_add_right u' 4)) (hpl _ (List.getElem_mem h2)) (by omega) (by omega) (by omega)
      have ga : atI as (i : Int) = some as[i] := by rw [zatI_nat _ (by omega), Int.toNat_natCast, List.getElem?_eq_getElem h1]
      have ge : atI es (i : Int) = some es[i] := by rw [zatI_nat _ (by omega), Int.toNat_natCast, List.getElem?_eq_getElem h2]
      by_cases hse : as[i] = es[i]
      · have e2 : m__law_same N [as[i], es[i]] = .ok (.bool true) := by rw [e, sameD_t hse]
        simp [ga, ge, e2]
        rw [List.take_add_one, List.take_add_one, List.getElem?_eq_getElem h1, List.getElem?_eq_getElem h2, ht, hse]
      · have e2 : m__law_same N [as[i], es[i]] = .ok (.bool false) := by rw [e, sameD_f hse]
        simp [ga, ge, e2]
        intro h; subst h; exact hse rfl
    · rw [Nat.zero_add, rngD_len] at ht
      rw [List.take_of_length_le (by omega), List.take_of_length_le (by omega)] at ht
      exact ht
    · cases q with
      | inl u => have hq : as = es := hq; subst hq; simp
      | inr w => obtain ⟨rfl, hq⟩ := hq; simp; rw [sameD_f]; intro h; cases h; exact hq rfl
  · have : ¬ ((as.length : Int) = es.length) := by omega
    simp [this]
    rw [sameD_f]
    intro h; cases h; exact hl rfl
theorem same_tupN (ha : An b c w n a) (hn : ∀ as, a ≠ .tuple as) : mb__law_same r a (.tuple es) = .ok (.bool (sameD a (.tuple es))) := by
  have e : sameD a (.tuple es) = false := sameD_f (hn es)
  rw [e]
  unfold mb__law_same
  rcases ha with rfl | ha
  · simp
  cases a <;> simp
  exact absurd rfl (hn _)
end
theorem same_tm {b c w b' c' w' : Nat} : ∀ (N : Nat) {a e : D} {n m : Nat}, Tq b c w n a → Tq b' c' w' m e → Pl e → w ≤ 16000000 → w' ≤ 16000000 → m < N → n ≤ 64 → m ≤ 64 → m__law_same N [a, e] = .ok (.bool (sameD a e))
  | 0, _, _, _, _, _, _, _, _, _, h, _, _ => absurd h (Nat.not_lt_zero _)
  | N + 1, a, e, n, m, ha, he, hp, hw, hw', hm, hn, hm' => by
    show mb__law_same (m__law_same N) a e = _
    cases hp with
    | none => exact same_non (.inr ha)
    | bool p => exact same_bl (.inr ha)
    | int i => exact same_int (.inr ha)
    | str x => exact same_st (.inr ha) (plain_strOk (tq_str.mp he).1)
    | tuple es h =>
      by_cases ht : ∃ as, a = .tuple as
      · obtain ⟨as, rfl⟩ := ht
        exact same_tup N (fun h1 h2 h3 h4 h5 h6 => same_tm N h1 h2 h3 hw hw' h4 h5 h6) ha he (.tuple es h) hw hw' hn hm hm'
      · exact same_tupN (.inr ha) fun as z => ht ⟨as, z⟩
/-- _law_same of an answer and what is due -/
theorem same_ok {b c w n b' c' w' m : Nat} {a e : D} (ha : An b c w n a) (he : Tq b' c' w' m e) (hp : Pl e) (hw : w ≤ 16000000) (hw' : w' ≤ 16000000) (hn : n ≤ 64) (hm : m < 40) : m__law_same 40 [a, e] = .ok (.bool (sameD a e)) := by
  rcases ha with rfl | ha
  · show mb__law_same (m__law_same 39) (.dict []) e = _
    have ha : An 0 0 0 0 (.dict []) := .inl rfl
    cases hp with
    | none => exact same_non ha
    | bool p => exact same_bl ha
    | int i => exact same_int ha
    | str x => exact same_st ha (plain_strOk (tq_str.mp he).1)
    | tuple es h => exact same_tupN ha fun as z => by cases z
  · exact same_tm 40 ha he hp hw hw' hm hn (by omega)
theorem same_bool {p q : Bool} : m__law_same 40 [.bool p, .bool q] = .ok (.bool (p == q)) := by
  have ha : Tq 0 0 6 0 (.bool p) := tq_bool.mpr (Nat.le_refl _)
  rw [same_ok (.inr ha) (tq_bool.mpr (Nat.le_refl 6) : Tq 0 0 6 0 (.bool q)) (.bool q) (by omega) (by omega) (by omega) (by omega)]
  congr 1; congr 1
  rw [Bool.eq_iff_iff, sameD_iff]; simp
set_option Elab.async false
set_option linter.all false
set_option maxRecDepth 100000
set_option maxHeartbeats 0
open PySem L2

theorem next_m {s : D} (hs : St s) {m : Int} (hm : 0 < m) (hm2 : m < 1073741824) : ∃ v s', m__law_next [s, .int m] = .ok (.int v, s') ∧ 0 ≤ v ∧ v < m ∧ St s' := by
  obtain ⟨⟨d, s'⟩, e, v, h1, h2, h3, h4⟩ := next_sat hs hm hm2
  have h1 : d = .int v := h1
  subst h1
  exact ⟨v, s', e, h2, h3, h4⟩
theorem log_lt {x : Int} {s : Nat} (h : x.natAbs < 2 ^ s) (hs : s ≤ 1900) : x.natAbs.log2 < 1920 := by
  by_cases h0 : x.natAbs = 0
  · rw [h0]; decide
  · have : x.natAbs.log2 < s := (Nat.log2_lt h0).mpr h
    omega
/-- what is told; what may be asked -/
abbrev Tt (w n : Nat) (d : D) : Prop := Tq 60 64 w n d
abbrev Ta (w n : Nat) (d : D) : Prop := Tq 61 64 w n d
/-- an item of a list, and the state -/
theorem pick_sat {P : D → Prop} {L : List D} {k : Int} {s1 : D} (h0 : 0 ≤ k) (h : k < L.length) (hs : St s1) (hp : ∀ d ∈ L, P d) :
    Sat ((liftO (atI L k)).bind fun d => .ok (d, s1)) fun r => P r.1 ∧ St r.2 := by
  obtain ⟨d, dm, de⟩ := atI_mem h0 h
  rw [de]
  exact ⟨_, rfl, hp d dm, hs⟩
theorem if_size {α : Type} {a : Nat} {p q : α} (h : a ≤ sizeLine) : (if a ≤ sizeLine then p else q) = p := if_pos h
theorem if_size' {α : Type} {a : Nat} {p q : α} (h : a < sizeLine) : (if a < sizeLine then p else q) = p := if_pos h


section
variable {n w N : Nat} {v st : D} {r : List D → M (D × D)}
theorem chg_small (hs : St st) (tv : Tt w n v) (hw : w ≤ 1000000) (hn : ∀ ds, v ≠ .tuple ds) : Sat (mb__law_changed r st v) fun q => Ta (5 * w + 64) (n + 1) q.1 ∧ St q.2 := by
  unfold mb__law_changed
  cases v with
  | bool b =>
    obtain ⟨k, s1, e1, h1, h2, hs1⟩ := next_m hs (m := 2) (by decide) (by decide)
    simp [e1]
    exact pick_sat h1 (by simpa using h2) hs1 (by cases b <;> simp <;> omega)
  | none =>
    obtain ⟨k, s1, e1, h1, h2, hs1⟩ := next_m hs (m := 7) (by decide) (by decide)
    simp [e1]
    refine pick_sat h1 (by simpa using h2) hs1 ?_
    have z3 : plainS "None" = true := by decide +kernel
    have z4 : ("None" : Str).length = 4 := by decide +kernel
    simp [z3, z4]
  | int i =>
    obtain ⟨k, s1, e1, h1, h2, hs1⟩ := next_m hs (m := 7) (by decide) (by decide)
    obtain ⟨ti, tw⟩ := tq_int.mp tv
    have hlog := log_lt ti (by omega)
    have z6 : plainS (Str.ofString i.repr) = true := plain_num i
    have z7 : (Str.ofString i.repr).length ≤ 62 := num_len ti
    by_cases h0 : i = 0
    · subst h0
      simp [e1, hlog]
      refine pick_sat h1 (by simpa using h2) hs1 ?_
      simp [z6, z7]
      omega
    · simp [e1, hlog, h0]
      refine pick_sat h1 (by simpa using h2) hs1 ?_
      simp [z6, z7]
      omega
  | str z =>
    obtain ⟨tz, tl⟩ := tq_str.mp tv
    obtain ⟨k, s1, e1, h1, h2, hs1⟩ := next_m hs (m := 9) (by decide) (by decide)
    have za : plainS "a" = true := by decide +kernel
    have zb : plainS "b" = true := by decide +kernel
    have zl : plainS "left" = true := by decide +kernel
    have zi : plainS "in" = true := by decide +kernel
    have z0 : plainS "" = true := by decide +kernel
    have la : ("a" : Str).length = 1 := by decide +kernel
    have lb : ("b" : Str).length = 1 := by decide +kernel
    have ll : ("left" : Str).length = 4 := by decide +kernel
    have li : ("in" : Str).length = 2 := by decide +kernel
    have l0 : ("" : Str).length = 0 := by decide +kernel
    have hz : z.length ≤ sizeLine := by rw [sizeLine_eq]; omega
    have hz1 : z.length + 1 ≤ sizeLine := by rw [sizeLine_eq]; omega
    have hz2 : 1 + z.length ≤ sizeLine := by rw [sizeLine_eq]; omega
    simp [e1, hz, hz1, hz2, la, lb]
    refine pick_sat h1 (by simpa using h2) hs1 ?_
    have c1 : ∀ lo hi, (cutS z lo hi).length + 4 ≤ 5 * w + 64 := fun lo hi => by have := cutS_len (z := z) (lo := lo) (hi := hi); omega
    simp [c1, za, zb, zl, zi, z0, plain_cut tz, plain_add za tz, plain_add tz zb, plain_add tz za, plain_add zb tz, plain_rev tz, len_add, len_rev, la, lb, ll, li, l0]
    omega
  | dict kvs => exact (tq_dict tv).elim
  | list ds =>
    simp
    exact ⟨bq_tup (w := 0) (n := n) bq_nil (by omega), hs⟩
  | tuple ds => exact absurd rfl (hn ds)

theorem chg_tup {ds : List D} (ih : ∀ {n w : Nat} {v st : D}, St st → Tt w n v → n < N → n ≤ 60 → w ≤ 1000000 → Sat (r [st, v]) fun q => Ta (5 * w + 64) (n + 1) q.1 ∧ St q.2)
    (hs : St st) (tv : Tt w n (.tuple ds)) (hn : n ≤ N) (h60 : n ≤ 60) (hw : w ≤ 1000000) : Sat (mb__law_changed r st (.tuple ds)) fun q => Ta (5 * w + 64) (n + 1) q.1 ∧ St q.2 := by
  have tm0 : Tm 1000000 n (.tuple ds) := tv.tm (by omega) hw
  have okv : cmpOk (.tuple ds) = true := tm0.ok (by omega)
  obtain ⟨m, u, rfl, rfl, dt⟩ := tq_tup tv
  have dl := dt.len
  have dA : Bq 61 64 u (m + 1) ds := dt.mono (by omega) (by omega) (Nat.le_refl _)
  have ok0 : cmpOk (.tuple []) = true := by decide +kernel
  unfold mb__law_changed
  by_cases h0 : ds = []
  · have he : PyData.eqvAll ds [] = true := by rw [h0]; simp
    have hds : (.tuple ds : D) = .tuple ds := rfl
    simp [okv, ok0, he]
    obtain ⟨k, s1, e1, h1, h2, hs1⟩ := next_m hs (m := (List.length ds : Int) + 1) (by omega) (by omega)
    obtain ⟨j, s2, e2, g1, g2, hs2⟩ := next_m hs1 (m := (List.length ds : Int) + 1) (by omega) (by omega)
    have k1 : 0 ≤ k + 1 := by omega
    have j1 : 0 ≤ j + 1 := by omega
    have A : ∀ {L : List D} {q : Nat}, Bq 61 64 q (m + 1) L → q ≤ 5 * u + 70 → Ta (5 * (u + 4) + 64) (m + 2) (.tuple L) ∧ Ta (5 * (u + 4) + 64) (m + 2) (.list L) := fun {L q} hb hq => ⟨bq_tup hb (by omega), bq_lst hb (by omega)⟩
    have b_zero : Bq 61 64 66 (m + 1) [.int 0] := bq_cons (m := 64) (tq_int.mpr ⟨by decide, by omega⟩) bq_nil
    by_cases hkj : k < j ∧ j < List.length ds
    · obtain ⟨hk, hj⟩ := hkj
      obtain ⟨l, s3, e3, l1, l2, hs3⟩ := next_m hs2 (m := 11) (by decide) (by decide)
      have e0 : rngD 0 3 = [.int 0, .int 1, .int 2] := rfl
      have r0 : rngOk 0 3 = true := by decide +kernel
      simp_arith [M.ok_bind, M.noX_ok, M.bind_assoc, e1, e2, cut_to h1, cut_from k1, cut_to (show (0 : Int) ≤ 1 by decide), cut_from h1]
      ((repeat (rw [if_pos (by (first | assumption | (simp only [List.length_append, List.length_cons, List.length_nil, List.length_take, List.length_drop, List.length_reverse, List.length_map, List.length_dropLast, List.length_tail, List.length_range, Int.toNat_natCast, sizeLine_eq]; omega) | omega))]; simp_arith [M.ok_bind, M.noX_ok, M.bind_assoc])))
      simp only [hk, hj, decide_true, if_true]
      simp_arith [M.ok_bind, M.noX_ok, M.bind_assoc, e0, r0, if_true, lcE_cons, cut_to h1, cut_from k1, cut_at g1 j1, cut_at k1 g1, cut_at h1 k1, cut_from j1]
      ((repeat (rw [if_pos (by (first | assumption | (simp only [List.length_append, List.length_cons, List.length_nil, List.length_take, List.length_drop, List.length_reverse, List.length_map, List.length_dropLast, List.length_tail, List.length_range, Int.toNat_natCast, sizeLine_eq]; omega) | omega))]; simp_arith [M.ok_bind, M.noX_ok, M.bind_assoc])))
      change Sat (M.bind (M.noX (m__law_next [s2, .int 11])) _) _
      simp_arith [e3, M.ok_bind, M.noX_ok]
      exact pick_sat l1 l2 hs3 (List.forall_mem_cons.mpr ⟨(A (bq_app (bq_take dA) (bq_drop dA)) (by omega)).1, (List.forall_mem_cons.mpr ⟨(A (bq_app dA (bq_take dA)) (by omega)).1, (List.forall_mem_cons.mpr ⟨(A ((bq_rev dA)) (by omega)).1, (List.forall_mem_cons.mpr ⟨(A (bq_app (bq_drop dA) (bq_take dA)) (by omega)).1, (List.forall_mem_cons.mpr ⟨(A (dA) (by omega)).2, (List.forall_mem_cons.mpr ⟨(A ((bq_take dA)) (by omega)).1, (List.forall_mem_cons.mpr ⟨(A (bq_nil) (by omega)).1, (List.forall_mem_cons.mpr ⟨(A (bq_app dA b_zero) (by omega)).1, (List.forall_mem_cons.mpr ⟨(A (bq_app (bq_app (bq_app (bq_app (bq_take dA) (bq_take (bq_drop dA))) (bq_take (bq_drop dA))) (bq_take (bq_drop dA))) (bq_drop dA)) (by omega)).1, (List.forall_mem_cons.mpr ⟨(A (bq_app (bq_app (bq_app (bq_app (bq_take dA) (bq_take (bq_drop dA))) (bq_take (bq_drop dA))) (bq_take (bq_drop dA))) (bq_drop dA)) (by omega)).1, (List.forall_mem_cons.mpr ⟨(A (bq_app (bq_app (bq_app (bq_app (bq_take dA) (bq_take (bq_drop dA))) (bq_take (bq_drop dA))) (bq_take (bq_drop dA))) (bq_drop dA)) (by omega)).1, (fun _ h => absurd h List.not_mem_nil)⟩)⟩)⟩)⟩)⟩)⟩)⟩)⟩)⟩)⟩)⟩)
    · obtain ⟨l, s3, e3, l1, l2, hs3⟩ := next_m hs2 (m := 8) (by decide) (by decide)
      have hd : (if decide (k < j) = true then decide (j < (List.length ds : Int)) else false) = false := by
        by_cases hk : k < j
        · have hj : ¬ j < List.length ds := fun z => hkj ⟨hk, z⟩
          simp [hk, hj]
        · simp [hk]
      simp_arith [M.ok_bind, M.noX_ok, M.bind_assoc, e1, e2, cut_to h1, cut_from k1, cut_to (show (0 : Int) ≤ 1 by decide), cut_from h1]
      ((repeat (rw [if_pos (by (first | assumption | (simp only [List.length_append, List.length_cons, List.length_nil, List.length_take, List.length_drop, List.length_reverse, List.length_map, List.length_dropLast, List.length_tail, List.length_range, Int.toNat_natCast, sizeLine_eq]; omega) | omega))]; simp_arith [M.ok_bind, M.noX_ok, M.bind_assoc])))
      simp_arith [hd, Bool.false_eq_true, if_false, M.ok_bind]
      change Sat (M.bind (M.noX (m__law_next [s2, .int 8])) _) _
      simp_arith [e3, M.ok_bind, M.noX_ok]
      exact pick_sat l1 l2 hs3 (List.forall_mem_cons.mpr ⟨(A (bq_app (bq_take dA) (bq_drop dA)) (by omega)).1, (List.forall_mem_cons.mpr ⟨(A (bq_app dA (bq_take dA)) (by omega)).1, (List.forall_mem_cons.mpr ⟨(A ((bq_rev dA)) (by omega)).1, (List.forall_mem_cons.mpr ⟨(A (bq_app (bq_drop dA) (bq_take dA)) (by omega)).1, (List.forall_mem_cons.mpr ⟨(A (dA) (by omega)).2, (List.forall_mem_cons.mpr ⟨(A ((bq_take dA)) (by omega)).1, (List.forall_mem_cons.mpr ⟨(A (bq_nil) (by omega)).1, (List.forall_mem_cons.mpr ⟨(A (bq_app dA b_zero) (by omega)).1, (fun _ h => absurd h List.not_mem_nil)⟩)⟩)⟩)⟩)⟩)⟩)⟩)⟩)
  · have he : PyData.eqvAll ds [] = false := by
      cases ds with
      | nil => exact absurd rfl h0
      | cons _ _ => simp
    obtain ⟨q, s0, e0, q1, q2, hs0⟩ := next_m hs (m := 4) (by decide) (by decide)
    by_cases hq : 0 < q
    · have hlen : 0 < ds.length := by cases ds with
        | nil => exact absurd rfl h0
        | cons _ _ => simp
      obtain ⟨k, s1, e1, h1, h2, hs1⟩ := next_m hs0 (m := (ds.length : Int)) (by omega) (by omega)
      obtain ⟨d, dm, de⟩ := atI_mem h1 h2
      have dg : ds[k.toNat]? = some d := by rw [← de, zatI_nat k h1]
      have hbut := wts_but (c := 64) dg
      have hdu := wts_mem (c := 64) dm
      have hu := dt.wt
      obtain ⟨⟨v1, s2⟩, e2, tv1, hs2⟩ := ih hs1 (dt.mem' dm) (by omega) (by omega) (by omega)
      have k1 : 0 ≤ k + 1 := by omega
      have ek : (k + 1).toNat = k.toNat + 1 := by omega
      simp (disch := (first | assumption | (simp only [List.length_append, List.length_cons, List.length_nil, List.length_take, List.length_drop, List.length_reverse, List.length_map, List.length_dropLast, List.length_tail, List.length_range, Int.toNat_natCast, sizeLine_eq]; omega) | omega)) [okv, ok0, he, e0, hq, e1, e2, de, cut_to, cut_from, h1, k1, if_size]
      refine ⟨?_, hs2⟩
      rw [ek]
      have B1 : Bq 61 64 (wts 64 (ds.take k.toNat)) (m + 1) (ds.take k.toNat) := bq_sub dA (fun _ q => List.mem_of_mem_take q) (Nat.le_refl _)
      have B2 : Bq 61 64 (wts 64 (ds.drop (k.toNat + 1))) (m + 1) (ds.drop (k.toNat + 1)) := bq_sub dA (fun _ q => List.mem_of_mem_drop q) (Nat.le_refl _)
      have := bq_tup (w' := 5 * (u + 4) + 64) (bq_app (bq_app B1 (bq_cons tv1 bq_nil)) B2) (by omega)
      simpa using this
    · have hq0 : q = 0 := by omega
      subst hq0
      simp [okv, ok0, he, e0]
      obtain ⟨k, s1, e1, h1, h2, hs1⟩ := next_m hs0 (m := (List.length ds : Int) + 1) (by omega) (by omega)
      obtain ⟨j, s2, e2, g1, g2, hs2⟩ := next_m hs1 (m := (List.length ds : Int) + 1) (by omega) (by omega)
      have k1 : 0 ≤ k + 1 := by omega
      have j1 : 0 ≤ j + 1 := by omega
      have A : ∀ {L : List D} {q : Nat}, Bq 61 64 q (m + 1) L → q ≤ 5 * u + 70 → Ta (5 * (u + 4) + 64) (m + 2) (.tuple L) ∧ Ta (5 * (u + 4) + 64) (m + 2) (.list L) := fun {L q} hb hq => ⟨bq_tup hb (by omega), bq_lst hb (by omega)⟩
      have b_zero : Bq 61 64 66 (m + 1) [.int 0] := bq_cons (m := 64) (tq_int.mpr ⟨by decide, by omega⟩) bq_nil
      by_cases hkj : k < j ∧ j < List.length ds
      · obtain ⟨hk, hj⟩ := hkj
        obtain ⟨l, s3, e3, l1, l2, hs3⟩ := next_m hs2 (m := 11) (by decide) (by decide)
        have e0 : rngD 0 3 = [.int 0, .int 1, .int 2] := rfl
        have r0 : rngOk 0 3 = true := by decide +kernel
        simp_arith [M.ok_bind, M.noX_ok, M.bind_assoc, e1, e2, cut_to h1, cut_from k1, cut_to (show (0 : Int) ≤ 1 by decide), cut_from h1]
        ((repeat (rw [if_pos (by (first | assumption | (simp only [List.length_append, List.length_cons, List.length_nil, List.length_take, List.length_drop, List.length_reverse, List.length_map, List.length_dropLast, List.length_tail, List.length_range, Int.toNat_natCast, sizeLine_eq]; omega) | omega))]; simp_arith [M.ok_bind, M.noX_ok, M.bind_assoc])))
        simp only [hk, hj, decide_true, if_true]
        simp_arith [M.ok_bind, M.noX_ok, M.bind_assoc, e0, r0, if_true, lcE_cons, cut_to h1, cut_from k1, cut_at g1 j1, cut_at k1 g1, cut_at h1 k1, cut_from j1]
        ((repeat (rw [if_pos (by (first | assumption | (simp only [List.length_append, List.length_cons, List.length_nil, List.length_take, List.length_drop, List.length_reverse, List.length_map, List.length_dropLast, List.length_tail, List.length_range, Int.toNat_natCast, sizeLine_eq]; omega) | omega))]; simp_arith [M.ok_bind, M.noX_ok, M.bind_assoc])))
        change Sat (M.bind (M.noX (m__law_next [s2, .int 11])) _) _
        simp_arith [e3, M.ok_bind, M.noX_ok]
        exact pick_sat l1 l2 hs3 (List.forall_mem_cons.mpr ⟨(A (bq_app (bq_take dA) (bq_drop dA)) (by omega)).1, (List.forall_mem_cons.mpr ⟨(A (bq_app dA (bq_take dA)) (by omega)).1, (List.forall_mem_cons.mpr ⟨(A ((bq_rev dA)) (by omega)).1, (List.forall_mem_cons.mpr ⟨(A (bq_app (bq_drop dA) (bq_take dA)) (by omega)).1, (List.forall_mem_cons.mpr ⟨(A (dA) (by omega)).2, (List.forall_mem_cons.mpr ⟨(A ((bq_take dA)) (by omega)).1, (List.forall_mem_cons.mpr ⟨(A (bq_nil) (by omega)).1, (List.forall_mem_cons.mpr ⟨(A (bq_app dA b_zero) (by omega)).1, (List.forall_mem_cons.mpr ⟨(A (bq_app (bq_app (bq_app (bq_app (bq_take dA) (bq_take (bq_drop dA))) (bq_take (bq_drop dA))) (bq_take (bq_drop dA))) (bq_drop dA)) (by omega)).1, (List.forall_mem_cons.mpr ⟨(A (bq_app (bq_app (bq_app (bq_app (bq_take dA) (bq_take (bq_drop dA))) (bq_take (bq_drop dA))) (bq_take (bq_drop dA))) (bq_drop dA)) (by omega)).1, (List.forall_mem_cons.mpr ⟨(A (bq_app (bq_app (bq_app (bq_app (bq_take dA) (bq_take (bq_drop dA))) (bq_take (bq_drop dA))) (bq_take (bq_drop dA))) (bq_drop dA)) (by omega)).1, (fun _ h => absurd h List.not_mem_nil)⟩)⟩)⟩)⟩)⟩)⟩)⟩)⟩)⟩)⟩)⟩)
      · obtain ⟨l, s3, e3, l1, l2, hs3⟩ := next_m hs2 (m := 8) (by decide) (by decide)
        have hd : (if decide (k < j) = true then decide (j < (List.length ds : Int)) else false) = false := by
          by_cases hk : k < j
          · have hj : ¬ j < List.length ds := fun z => hkj ⟨hk, z⟩
            simp [hk, hj]
          · simp [hk]
        simp_arith [M.ok_bind, M.noX_ok, M.bind_assoc, e1, e2, cut_to h1, cut_from k1, cut_to (show (0 : Int) ≤ 1 by decide), cut_from h1]
        ((repeat (rw [if_pos (by (first | assumption | (simp only [List.length_append, List.length_cons, List.length_nil, List.length_take, List.length_drop, List.length_reverse, List.length_map, List.length_dropLast, List.length_tail, List.length_range, Int.toNat_natCast, sizeLine_eq]; omega) | omega))]; simp_arith [M.ok_bind, M.noX_ok, M.bind_assoc])))
        simp_arith [hd, Bool.false_eq_true, if_false, M.ok_bind]
        change Sat (M.bind (M.noX (m__law_next [s2, .int 8])) _) _
        simp_arith [e3, M.ok_bind, M.noX_ok]
        exact pick_sat l1 l2 hs3 (List.forall_mem_cons.mpr ⟨(A (bq_app (bq_take dA) (bq_drop dA)) (by omega)).1, (List.forall_mem_cons.mpr ⟨(A (bq_app dA (bq_take dA)) (by omega)).1, (List.forall_mem_cons.mpr ⟨(A ((bq_rev dA)) (by omega)).1, (List.forall_mem_cons.mpr ⟨(A (bq_app (bq_drop dA) (bq_take dA)) (by omega)).1, (List.forall_mem_cons.mpr ⟨(A (dA) (by omega)).2, (List.forall_mem_cons.mpr ⟨(A ((bq_take dA)) (by omega)).1, (List.forall_mem_cons.mpr ⟨(A (bq_nil) (by omega)).1, (List.forall_mem_cons.mpr ⟨(A (bq_app dA b_zero) (by omega)).1, (fun _ h => absurd h List.not_mem_nil)⟩)⟩)⟩)⟩)⟩)⟩)⟩)⟩)
end
theorem changed_sat (N : Nat) : ∀ {n w : Nat} {v st : D}, St st → Tt w n v → n ≤ N → n ≤ 60 → w ≤ 1000000 → Sat (m__law_changed (N + 1) [st, v]) fun q => Ta (5 * w + 64) (n + 1) q.1 ∧ St q.2 := by
  induction N with
  | zero =>
    exact fun {n w v st} hs tv hn h60 h => by
      show Sat (mb__law_changed (m__law_changed 0) st v) _
      by_cases ht : ∃ ds, v = .tuple ds
      · obtain ⟨ds, rfl⟩ := ht
        exact chg_tup (N := 0) (fun _ _ z => absurd z (Nat.not_lt_zero _)) hs tv hn h60 h
      · exact chg_small hs tv h fun ds z => ht ⟨ds, z⟩
  | succ N ih =>
    exact fun {n w v st} hs tv hn h60 h => by
      show Sat (mb__law_changed (m__law_changed (N + 1)) st v) _
      by_cases ht : ∃ ds, v = .tuple ds
      · obtain ⟨ds, rfl⟩ := ht
        exact chg_tup (N := N + 1) (fun {n w v st} h1 h2 h3 h4 h5 => ih h1 h2 (Nat.le_of_lt_succ h3) h4 h5) hs tv hn h60 h
      · exact chg_small hs tv h fun ds z => ht ⟨ds, z⟩
set_option Elab.async false
set_option linter.all false
set_option maxRecDepth 100000
set_option maxHeartbeats 0
open PySem L2

theorem canOk {d : D} (h : d.canLay0 = true) (h2 : d.depth ≤ 64) : cmpOk d = true := by
  unfold cmpOk SeqAt.shaped
  rw [h, Bool.true_and]; exact decide_eq_true h2
theorem cmpOk_ints {ds : List D} (h : ∀ d ∈ ds, ∃ i : Int, d = .int i) : cmpOk (.list ds) = true := by
  have h1 : ∀ d ∈ ds, d.canLay0 = true ∧ d.depth ≤ 0 := fun d hd => by
    obtain ⟨i, rfl⟩ := h d hd
    simp [PyData.canLay0, PyData.depth]
  refine canOk ?_ ?_
  · simp only [PyData.canLay0]; exact canLayAll_iff.mpr fun d hd => (h1 d hd).1
  · simp only [PyData.depth]
    have h2 : PyData.depthAll ds ≤ 0 := depthAll_le.mpr fun d hd => (h1 d hd).2
    omega
/-- whole numbers under 2 ^ b, at most n of them -/
def Ints (b n : Nat) (ds : List D) : Prop := ds.length ≤ n ∧ ∀ d ∈ ds, ∃ i : Int, d = .int i ∧ i.natAbs < 2 ^ b
def LiI (n : Nat) (d : D) : Prop := ∃ zs, d = .list zs ∧ Ints 60 n zs
theorem ints_step {r : List D → M D} {N : Nat} (ih : ∀ {n w : Nat} {v : D}, Tt w n v → n < N → w ≤ 1000000 → Sat (r [v]) (LiI w))
    {n w : Nat} {v : D} (tv : Tt w n v) (hn : n ≤ N) (hw : w ≤ 1000000) : Sat (mb__law_ints r v) (LiI w) := by
  unfold mb__law_ints
  have nl : LiI w (.list []) := ⟨[], rfl, Nat.zero_le _, fun _ h => absurd h List.not_mem_nil⟩
  cases v with
  | bool b => simpa using nl
  | none => simpa using nl
  | str _ => simpa using nl
  | list _ => simpa using nl
  | dict _ => exact (tq_dict tv).elim
  | int i =>
    have : LiI w (.list [.int i]) := ⟨[.int i], rfl, by have := (tq_int.mp tv).2; simp; omega, fun d h => ⟨i, List.mem_singleton.mp h, (tq_int.mp tv).1⟩⟩
    simpa using this
  | tuple ds =>
    obtain ⟨m, u, rfl, rfl, dt⟩ := tq_tup tv
    have hu := dt.wt
    simp
    refine Sat.bind (foldM_idx (fun i b => LiI (wts 64 (ds.take i)) b) (n := 0) (fun i b d hd hb => ?_) ⟨[], rfl, by simp, fun _ h => absurd h List.not_mem_nil⟩) fun b hb => ?_
    · rw [Nat.zero_add] at hb ⊢
      obtain ⟨zb, rfl, hl, hb⟩ := hb
      have hi : i < ds.length := (List.getElem?_eq_some_iff.mp hd).1
      have hdm := List.mem_of_getElem? hd
      have hwd := wts_mem (c := 64) hdm
      obtain ⟨_, e, zs, rfl, zl, zh⟩ := ih (dt.mem' hdm) (by omega) (by omega)
      have okb : cmpOk (.list zb) = true := cmpOk_ints fun d h => let ⟨i, e, _⟩ := hb d h; ⟨i, e⟩
      have htk : wts 64 (ds.take (i + 1)) = wts 64 (ds.take i) + (wt 64 d + 2) := by
        have := (List.getElem?_eq_some_iff.mp hd).2
        rw [List.take_succ_eq_append_getElem hi, this, wts_app, wts_cons, wts_nil]
      have hti := wts_take (c := 64) (ds := ds) (k := i)
      have fl : ∀ p : D → Bool, (zs.filter p).length ≤ wt 64 d := fun p => Nat.le_trans (List.length_filter_le _ _) zl
      have sz : ∀ p : D → Bool, zb.length + (zs.filter p).length ≤ sizeLine := fun p => by
        have := fl p
        rw [sizeLine_eq]; omega
      simp [e, okb]
      rw [lcF_map (p := fun z => !zb.any fun y => PyData.eqv y z) (g := fun z => z) (fun z hz => by
        obtain ⟨x, rfl, _⟩ := zh z hz
        simp
        split <;> simp_all)]
      simp [sz]
      refine ⟨_, rfl, ?_, fun e he => ?_⟩
      · rw [List.length_append, htk]
        exact Nat.add_le_add hl (Nat.le_trans (fl _) (Nat.le_add_right _ 2))
      · rcases List.mem_append.mp he with he | he
        · exact hb e he
        · exact zh e (List.mem_filter.mp he).1
    · obtain ⟨zb, rfl, hl, hb⟩ := hb
      rw [Nat.zero_add, List.take_length] at hl
      exact ⟨_, rfl, zb, rfl, by omega, hb⟩
theorem ints_sat (N : Nat) : ∀ {n w : Nat} {v : D}, Tt w n v → n ≤ N → w ≤ 1000000 → Sat (m__law_ints (N + 1) [v]) (LiI w) := by
  induction N with
  | zero => exact fun {n w v} tv hn h => ints_step (r := m__law_ints 0) (N := 0) (fun _ z => absurd z (Nat.not_lt_zero _)) tv hn h
  | succ N ih => exact fun {n w v} tv hn h => ints_step (r := m__law_ints (N + 1)) (N := N + 1) (fun {n w v} h1 h2 h3 => ih h1 (Nat.le_of_lt_succ h2) h3) tv hn h
/-! ### _law_exchanged -/
theorem exchanged_step {r : List D → M D} {N : Nat} {a b : Int} (ha : a.natAbs < 2 ^ 61) (hb : b.natAbs < 2 ^ 61) (ih : ∀ {n w : Nat} {v : D}, Ta w n v → n < N → Sat (r [v, .int a, .int b]) (Ta w n))
    {n w : Nat} {v : D} (tv : Ta w n v) (hn : n ≤ N) : Sat (mb__law_exchanged r v (.int a) (.int b)) (Ta w n) := by
  classical
  unfold mb__law_exchanged
  cases v with
  | bool b => simpa using tv
  | none => simpa using tv
  | str _ => simpa using tv
  | list _ => simpa using tv
  | dict _ => exact (tq_dict tv).elim
  | int i =>
    have hc := (tq_int.mp tv).2
    by_cases h1 : i = a
    · subst h1; simp; exact ⟨hb, hc⟩
    · by_cases h2 : i = b
      · subst h2; simp [h1]; exact ⟨ha, hc⟩
      · simp [h1, h2]; exact tq_int.mp tv
  | tuple ds =>
    obtain ⟨m, u, rfl, rfl, dt⟩ := tq_tup tv
    have hx : ∀ d ∈ ds, ∃ v', r [d, .int a, .int b] = .ok v' ∧ Ta (wt 64 d) m v' := fun d hd => ih (dt.mem' hd) (by omega)
    let h : D → D := fun d => if hd : d ∈ ds then (hx d hd).choose else d
    have hh : ∀ d ∈ ds, r [d, .int a, .int b] = .ok (h d) ∧ Ta (wt 64 d) m (h d) := fun d hd => by
      have : h d = (hx d hd).choose := dif_pos hd
      rw [this]; exact (hx d hd).choose_spec
    have key : ∀ L : List D, (∀ d ∈ L, d ∈ ds) → wts 64 (L.map h) ≤ wts 64 L := fun L => by
      induction L with
      | nil => intro _; simp
      | cons d L ih' =>
        intro hL
        have h1 := (hh d (hL d List.mem_cons_self)).2.wt
        have h2 := ih' fun e he => hL e (List.mem_cons_of_mem _ he)
        rw [List.map_cons, wts_cons, wts_cons]; omega
    have hk := key ds fun _ q => q
    have hu := dt.wt
    simp
    rw [lcE_map (g := h) (fun z hz => by simp [(hh z hz).1])]
    simp
    refine bq_tup (w := u) ⟨fun e he => ?_, fun e he => ?_, by omega⟩ (Nat.le_refl _)
    · obtain ⟨d, hd, rfl⟩ := List.mem_map.mp he
      exact (hh d hd).2.ok
    · obtain ⟨d, hd, rfl⟩ := List.mem_map.mp he
      exact (hh d hd).2.dp
theorem exchanged_sat (N : Nat) {a b : Int} (ha : a.natAbs < 2 ^ 61) (hb : b.natAbs < 2 ^ 61) : ∀ {n w : Nat} {v : D}, Ta w n v → n ≤ N → Sat (m__law_exchanged (N + 1) [v, .int a, .int b]) (Ta w n) := by
  induction N with
  | zero => exact fun {n w v} tv hn => exchanged_step (r := m__law_exchanged 0) (N := 0) ha hb (fun _ z => absurd z (Nat.not_lt_zero _)) tv hn
  | succ N ih => exact fun {n w v} tv hn => exchanged_step (r := m__law_exchanged (N + 1)) (N := N + 1) ha hb (fun {n w v} h1 h2 => ih h1 (Nat.le_of_lt_succ h2)) tv hn
set_option Elab.async false
set_option linter.all false
set_option maxRecDepth 100000
set_option maxHeartbeats 0
open PySem L2

/-! ### texts that are joined -/
theorem strsD_map : ∀ ys : List Str, strsD (ys.map .str) = some ys
  | [] => rfl
  | y :: ys => by simp [strsD, strsD_map ys]
theorem all_strs : ∀ {ds : List D}, (∀ d ∈ ds, instAny ["str"] d = true) → ∃ ys : List Str, ds = ys.map .str
  | [], _ => ⟨[], rfl⟩
  | d :: ds, h => by
    obtain ⟨ys, e⟩ := all_strs (ds := ds) fun e he => h e (List.mem_cons_of_mem _ he)
    have := h d List.mem_cons_self
    cases d with
    | str x => exact ⟨x :: ys, by rw [e]; rfl⟩
    | _ => simp at this
/-- texts, one behind another -/
def catS (ys : List Str) : Str := ys.foldr (· ++ ·) Str.empty
theorem emp_add (x : Str) : Str.empty ++ x = x := by
  show (⟨#[] ++ x.cps⟩ : Str) = x
  simp
theorem add_emp (x : Str) : x ++ Str.empty = x := by
  show (⟨x.cps ++ #[]⟩ : Str) = x
  simp
theorem join_cat (ys : List Str) : Txt.join "" ys = catS ys := by
  rw [TL.join_eq]
  induction ys with
  | nil => rfl
  | cons y ys ih =>
    cases ys with
    | nil => show y = y ++ Str.empty; rw [add_emp]
    | cons z r =>
      show y ++ "" ++ Str.join "" (z :: r) = y ++ catS (z :: r)
      rw [ih]
      have : ("" : Str) = Str.empty := rfl
      rw [this, add_emp]
theorem cat_len : ∀ ys : List Str, (catS ys).length = (ys.map (·.length)).sum
  | [] => rfl
  | y :: ys => by
    show (y ++ catS ys).length = _
    rw [len_add, cat_len ys]; simp
theorem cat_ok : ∀ {ys : List Str}, (∀ y ∈ ys, PyData.strOk y = true) → PyData.strOk (catS ys) = true
  | [], _ => by decide +kernel
  | y :: ys, h => strOk_add (h y List.mem_cons_self) (cat_ok fun z hz => h z (List.mem_cons_of_mem _ hz))
theorem sum_le {s : Nat} : ∀ {ys : List Str}, (∀ y ∈ ys, y.length ≤ s) → (ys.map (·.length)).sum ≤ ys.length * s
  | [], _ => by simp
  | y :: ys, h => by
    have h1 := h y List.mem_cons_self
    have h2 := sum_le (ys := ys) fun z hz => h z (List.mem_cons_of_mem _ hz)
    simp only [List.map_cons, List.sum_cons, List.length_cons, Nat.succ_mul]
    omega
theorem joinT {ds : List D} {ys : List Str} (h : strsD ds = some ys) (hz : (ys.map (·.length)).sum ≤ 16777216) : joinD (.str "") (.tuple ds) = some (.str (catS ys)) := by
  have l0 : ("" : Str).length = 0 := by decide +kernel
  show (strsD ds).bind _ = _
  rw [h]
  show (if (ys.map (·.length)).sum + ys.length * ("" : Str).length ≤ 16777216 then _ else _) = _
  rw [if_pos (by rw [l0]; omega), join_cat]
theorem cat_plain : ∀ {ys : List Str}, (∀ y ∈ ys, plainS y = true) → plainS (catS ys) = true
  | [], _ => by decide +kernel
  | y :: ys, h => plain_add (h y List.mem_cons_self) (cat_plain fun z hz => h z (List.mem_cons_of_mem _ hz))
theorem cat_wt : ∀ {ys : List Str}, (ys.map (·.length)).sum ≤ wts 64 (ys.map .str)
  | [] => by simp
  | y :: ys => by
    have := cat_wt (ys := ys)
    simp only [List.map_cons, List.sum_cons, wts_cons, wt]; omega
theorem bq_signs {n : Nat} {z : Str} (h : plainS z = true) : Bq 61 64 (7 * z.length) n (signs z) := by
  have key : ∀ cs : List Nat, (∀ c ∈ cs, PlC c) → Bq 61 64 (7 * cs.length) n (cs.map fun c => PyData.str ⟨#[c]⟩) := fun cs => by
    induction cs with
    | nil => intro _; exact bq_nil
    | cons c cs ih =>
      intro hc
      have h1 : Ta 5 n (PyData.str ⟨#[c]⟩) := tq_str.mpr ⟨plainS_eq.mpr fun c' hc' => by
        have : c' = c := by simpa using hc'
        rw [this]; exact hc c List.mem_cons_self, Nat.le_refl _⟩
      have := bq_cons h1 (ih fun d hd => hc d (List.mem_cons_of_mem _ hd))
      rw [List.map_cons]
      exact this.mono (Nat.le_refl _) (Nat.le_refl _) (by rw [List.length_cons]; omega)
  have := key z.cps.toList (plainS_eq.mp h)
  rw [show z.length = z.cps.toList.length from (cpl_len z).symm]
  exact this

/-- is it a tuple -/
def IsTp (d : D) : Prop := ∃ L, d = .tuple L
theorem isTp {L : List D} : IsTp (.tuple L) := ⟨L, rfl⟩


/-! ### _law_cut -/
def CutP (w n : Nat) (v : D) (q : D × D) : Prop := Ta (7 * w + 64) n q.1 ∧ St q.2 ∧ (IsTp v → IsTp q.1)
theorem pick_sat3 {P : D → Prop} {L : List D} {k : Int} {s1 : D} {Q : D × D → Prop} (h0 : 0 ≤ k) (h : k < L.length) (hq : ∀ d, P d → Q (d, s1)) (hp : ∀ d ∈ L, P d) :
    Sat ((liftO (atI L k)).bind fun d => .ok (d, s1)) Q := by
  obtain ⟨d, dm, de⟩ := atI_mem h0 h
  rw [de]
  exact ⟨_, rfl, hq d (hp d dm)⟩
theorem cut_step {r : List D → M (D × D)} {N : Nat} (ih : ∀ {n w : Nat} {v st : D}, St st → Tt w n v → n < N → n ≤ 60 → w ≤ 1000000 → Sat (r [st, v]) (CutP w n v))
    {n w : Nat} {v st : D} (hs : St st) (tv : Tt w n v) (hn : n ≤ N) (h60 : n ≤ 60) (hw : w ≤ 1000000) : Sat (mb__law_cut r st v) (CutP w n v) := by
  have up : ∀ {d : D}, Tt w n d → Ta (7 * w + 64) n d := fun h => h.mono (by omega) (Nat.le_refl _) (by omega)
  unfold mb__law_cut
  have triv : CutP w n v (v, st) := ⟨up tv, hs, fun h => h⟩
  cases v with
  | bool b => simpa using triv
  | none => simpa using triv
  | str _ => simpa using triv
  | list _ => simpa using triv
  | dict _ => exact (tq_dict tv).elim
  | int i => simpa using triv
  | tuple ds =>
    have tm0 : Tm 1000000 n (.tuple ds) := tv.tm (by omega) hw
    have okv : cmpOk (.tuple ds) = true := tm0.ok (by omega)
    have okf : cmpOk (.list (ds.filter fun d => !instAny ["str"] d)) = true := by
      obtain ⟨m, rfl, dl, dt⟩ := tm_tuple' tm0
      have : Tm 1000000 (m + 1) (.list (ds.filter fun d => !instAny ["str"] d)) := ⟨Nat.le_trans (List.length_filter_le _ _) dl, fun d hd => dt d (List.mem_filter.mp hd).1⟩
      exact this.ok (by omega)
    obtain ⟨m, u, rfl, rfl, dt⟩ := tq_tup tv
    have dl := dt.len
    have hu := dt.wt
    have dA : Bq 61 64 u m ds := dt.mono (by omega) (Nat.le_refl _) (Nat.le_refl _)
    have ok0 : cmpOk (.tuple []) = true := by decide +kernel
    have okl0 : cmpOk (.list []) = true := by decide +kernel
    by_cases h0 : ds = []
    · subst h0
      simpa [ok0] using triv
    have hlen : 0 < ds.length := by cases ds with
      | nil => exact absurd rfl h0
      | cons _ _ => simp
    have hne : PyData.eqvAll ds [] = false := by
      cases ds with
      | nil => exact absurd rfl h0
      | cons _ _ => simp
    obtain ⟨k, s1, e1, h1, h2, hs1⟩ := next_m hs (m := (ds.length : Int)) (by omega) (by omega)
    obtain ⟨d, dm, de⟩ := atI_mem h1 h2
    have k1 : 0 ≤ k + 1 := by omega
    have k2 : 0 ≤ k + 2 := by omega
    simp_arith [M.ok_bind, M.noX_ok, M.bind_assoc, okv, ok0, hne, Bool.and_true, if_true, Bool.not_false, Bool.not_true, Bool.false_eq_true, if_false]
    rw [lcF_map (p := fun d => !instAny ["str"] d) (g := fun z => z) (fun z hz => by cases h : instAny ["str"] z <;> simp [h])]
    simp_arith [M.ok_bind, M.noX_ok, M.bind_assoc, List.map_id', okf, okl0, Bool.and_true, if_true, e1]
    by_cases hf : ds.filter (fun d => !instAny ["str"] d) = []
    · obtain ⟨ys, rfl⟩ := all_strs (ds := ds) fun d hd => by
        cases q : instAny ["str"] d with
        | true => rfl
        | false =>
          have : d ∈ ds.filter (fun d => !instAny ["str"] d) := List.mem_filter.mpr ⟨hd, by simp [q]⟩
          rw [hf] at this; exact absurd this List.not_mem_nil
      have dl' : 2 * ys.length ≤ u := by simpa using dl
      have h2' : k < ys.length := by simpa using h2
      have dy : ∀ y ∈ ys, plainS y = true ∧ y.length + 6 ≤ u := fun y hy => by
        have q : PyData.str y ∈ ys.map PyData.str := List.mem_map.mpr ⟨y, hy, rfl⟩
        have := wts_mem (c := 64) q
        simp only [wt] at this
        exact ⟨(tq_str.mp (dt.mem q)).1, by omega⟩
      obtain ⟨y, hy, rfl⟩ := List.mem_map.mp dm
      obtain ⟨yo, yl⟩ := dy y hy
      obtain ⟨j, s2, e2, g1, g2, hs2'⟩ := next_m hs1 (m := (y.length : Int) + 1) (by omega) (by omega)
      obtain ⟨l, s3, e3, l1, l2, hs3⟩ := next_m hs2' (m := 6) (by decide) (by decide)
      have yl2 : y.length ≤ sizeLine := by rw [sizeLine_eq]; omega
      have sub : ∀ zs : List Str, List.Sublist zs ys → (zs.map (·.length)).sum ≤ u ∧ plainS (catS zs) = true := fun zs hz =>
        ⟨Nat.le_trans cat_wt (Nat.le_trans (wts_sub (hz.map PyData.str)) hu), cat_plain fun z q => (dy z (hz.subset q)).1⟩
      have c1 := sub ((ys.drop k.toNat).take ((k + 2).toNat - k.toNat)) ((List.take_sublist _ _).trans (List.drop_sublist _ _))
      have c2 := sub ys (List.Sublist.refl _)
      have j1 : strsD (((ys.map PyData.str).drop k.toNat).take ((k + 2).toNat - k.toNat)) = some ((ys.drop k.toNat).take ((k + 2).toNat - k.toNat)) := by
        rw [← List.map_drop, ← List.map_take, strsD_map]
      have w9 : (catS ys).length ≤ sizeLine := by rw [cat_len, sizeLine_eq]; have := c2.1; omega
      rw [hf]
      simp_arith [M.ok_bind, M.noX_ok, M.bind_assoc, Bool.not_true, Bool.false_eq_true, if_false, e1, de, e2, cut_to h1, cut_from k1, cut_at h1 k2, cut_from k2, cut_from h1, joinT j1 (by have := c1.1; omega), joinT (strsD_map ys) (by have := c2.1; omega)]
      ((repeat (rw [if_pos (by (first | assumption | (simp only [List.length_append, List.length_cons, List.length_nil, List.length_take, List.length_drop, List.length_reverse, List.length_map, List.length_dropLast, List.length_tail, List.length_range, Int.toNat_natCast, sizeLine_eq]; omega) | omega))]; simp_arith [M.ok_bind, M.noX_ok, M.bind_assoc])))
      simp_arith [e2, M.ok_bind, M.noX_ok, cut_to h1, cut_from k1, cut_at h1 k2, cut_from k2, cut_from h1, joinT j1 (by have := c1.1; omega), joinT (strsD_map ys) (by have := c2.1; omega)]
      ((repeat (rw [if_pos (by (first | assumption | (simp only [List.length_append, List.length_cons, List.length_nil, List.length_take, List.length_drop, List.length_reverse, List.length_map, List.length_dropLast, List.length_tail, List.length_range, Int.toNat_natCast, sizeLine_eq]; omega) | omega))]; simp_arith [M.ok_bind, M.noX_ok, M.bind_assoc])))
      change Sat (M.bind (M.noX (m__law_next [s2, .int 6])) _) _
      simp_arith [e3, M.ok_bind, M.noX_ok, List.cons_append, List.nil_append, List.append_assoc]
      have c3 : ∀ lo hi, Ta u m (.str (cutS y lo hi)) := fun lo hi => tq_str.mpr ⟨plain_cut yo, by have := cutS_len (z := y) (lo := lo) (hi := hi); omega⟩
      have c4 : Ta (u + 4) m (.str (catS ((ys.drop k.toNat).take ((k + 2).toNat - k.toNat)))) := tq_str.mpr ⟨c1.2, by rw [cat_len]; have := c1.1; omega⟩
      have c5 : Ta (u + 4) m (.str (catS ys)) := tq_str.mpr ⟨c2.2, by rw [cat_len]; have := c2.1; omega⟩
      have c6 : Ta 4 m (.str (Str.ofString "")) := tq_str.mpr ⟨by decide +kernel, by decide +kernel⟩
      have c7 : Bq 61 64 (7 * u) m (signs (catS ys)) := (bq_signs c2.2).mono (Nat.le_refl _) (Nat.le_refl _) (by rw [cat_len]; have := c2.1; omega)
      have dA1 : Bq 61 64 (wts 64 ((ys.map PyData.str).take k.toNat)) m ((ys.map PyData.str).take k.toNat) := bq_sub dA (fun _ q => List.mem_of_mem_take q) (Nat.le_refl _)
      have hty := wts_take (c := 64) (ds := ys.map PyData.str) (k := k.toNat)
      refine pick_sat3 (P := fun v => Ta (7 * (u + 4) + 64) (m + 1) v ∧ (IsTp (.tuple (ys.map PyData.str)) → IsTp v)) l1 l2 (fun d hd => ⟨hd.1, hs3, hd.2⟩) ?_
      exact List.forall_mem_cons.mpr ⟨⟨bq_tup (bq_app (bq_take dA) (bq_cons (c3 _ _) (bq_cons (c3 _ _) (bq_drop dA)))) (by omega), fun _ => isTp⟩, List.forall_mem_cons.mpr ⟨⟨bq_tup (bq_app (bq_take dA) (bq_cons c4 (bq_drop dA))) (by omega), fun _ => isTp⟩,
        List.forall_mem_cons.mpr ⟨⟨bq_tup (bq_cons c5 bq_nil) (by omega), fun _ => isTp⟩, List.forall_mem_cons.mpr ⟨⟨bq_tup c7 (by omega), fun _ => isTp⟩, List.forall_mem_cons.mpr ⟨⟨bq_tup (bq_app (bq_take dA) (bq_cons c6 (bq_drop dA))) (by omega), fun _ => isTp⟩,
        List.forall_mem_cons.mpr ⟨⟨bq_tup (bq_app (bq_take dA) (bq_app (bq_rev (bq_take (bq_drop dA))) (bq_drop dA))) (by omega), fun _ => isTp⟩, fun _ h => absurd h List.not_mem_nil⟩⟩⟩⟩⟩⟩
    · have hne2 : PyData.eqvAll (ds.filter fun d => !instAny ["str"] d) [] = false := by
        cases q : ds.filter (fun d => !instAny ["str"] d) with
        | nil => exact absurd q hf
        | cons _ _ => simp
      have dg : ds[k.toNat]? = some d := by rw [← de, zatI_nat k h1]
      have hbut := wts_but (c := 64) dg
      have hdu := wts_mem (c := 64) dm
      have ek : (k + 1).toNat = k.toNat + 1 := by omega
      obtain ⟨⟨v1, s2⟩, e2, tv1, hs2', _⟩ := ih hs1 (dt.mem' dm) (by omega) (by omega) (by omega)
      simp_arith [M.ok_bind, M.noX_ok, M.bind_assoc, hne2, Bool.not_false, if_true, e1, de, e2, cut_to h1, cut_from k1]
      ((repeat (rw [if_pos (by (first | assumption | (simp only [List.length_append, List.length_cons, List.length_nil, List.length_take, List.length_drop, List.length_reverse, List.length_map, List.length_dropLast, List.length_tail, List.length_range, Int.toNat_natCast, sizeLine_eq]; omega) | omega))]; simp_arith [M.ok_bind, M.noX_ok, M.bind_assoc])))
      refine ⟨?_, hs2', fun _ => isTp⟩
      rw [ek]
      have B1 : Bq 61 64 (wts 64 (ds.take k.toNat)) m (ds.take k.toNat) := bq_sub dA (fun _ q => List.mem_of_mem_take q) (Nat.le_refl _)
      have B2 : Bq 61 64 (wts 64 (ds.drop (k.toNat + 1))) m (ds.drop (k.toNat + 1)) := bq_sub dA (fun _ q => List.mem_of_mem_drop q) (Nat.le_refl _)
      exact bq_tup (bq_app (bq_app B1 (bq_cons tv1 bq_nil)) B2) (by omega)
theorem cut_sat (N : Nat) : ∀ {n w : Nat} {v st : D}, St st → Tt w n v → n ≤ N → n ≤ 60 → w ≤ 1000000 → Sat (m__law_cut (N + 1) [st, v]) (CutP w n v) := by
  induction N with
  | zero => exact fun {n w v st} hs tv hn h60 hw => cut_step (r := m__law_cut 0) (N := 0) (fun _ _ z => absurd z (Nat.not_lt_zero _)) hs tv hn h60 hw
  | succ N ih => exact fun {n w v st} hs tv hn h60 hw => cut_step (r := m__law_cut (N + 1)) (N := N + 1) (fun {n w v st} h1 h2 h3 h4 h5 => ih h1 h2 (Nat.le_of_lt_succ h3) h4 h5) hs tv hn h60 hw
set_option Elab.async false
set_option linter.all false
set_option maxRecDepth 100000
set_option maxHeartbeats 0
open PySem L2

/-! ### _law_turned_about, _law_odd -/
theorem two_of : ∀ {ds : List D}, ds.length = 2 → ∃ a b, ds = [a, b]
  | [a, b], _ => ⟨a, b, rfl⟩
  | [], h => by cases h
  | [_], h => by cases h
  | _ :: _ :: _ :: _, h => by simp at h
def OddP (w n : Nat) (q : D × D) : Prop := Ta (8 * w + 400) (n + 1) q.1 ∧ St q.2
theorem cut_one {ds : List D} (h : 0 < ds.length) : cutL ds none (some 1) = [ds[0]] := by
  rw [cut_to (by omega)]
  cases ds with
  | nil => simp at h
  | cons a l => simp
theorem turned_sat {w n : Nat} (hn : n ≤ 38) (hw : w ≤ 1000000) {ds : List D} {st : D} (hs : St st) (h0 : 0 < ds.length) (tv : Tt w (n + 1) (.tuple ds)) :
    Sat (m__law_turned_about [st, .tuple ds]) (OddP w n) := by
  have tv0 := tv
  obtain ⟨m, u, e, rfl, dt⟩ := tq_tup tv
  have e : m = n := by omega
  subst e
  have dl := dt.len
  have hu := dt.wt
  have up : ∀ {n : Nat} {d : D}, Tt (u + 4) n d → Ta (8 * (u + 4) + 400) n d := fun h => h.mono (by omega) (Nat.le_refl _) (by omega)
  have dA : Bq 61 64 u m ds := dt.mono (by omega) (Nat.le_refl _) (Nat.le_refl _)
  obtain ⟨_, ez, zs, rfl, zl, zh⟩ := ints_sat 39 tv (by omega) hw
  have okz : cmpOk (.list zs) = true := cmpOk_ints fun d h => let ⟨i, e, _⟩ := zh d h; ⟨i, e⟩
  have okl0 : cmpOk (.list []) = true := by decide +kernel
  have ok0 : cmpOk (.tuple []) = true := by decide +kernel
  obtain ⟨pick, s1, e1, p1, p2, hs1⟩ := next_m hs (m := 5) (by decide) (by decide)
  show Sat (mb__law_turned_about _ _) _
  unfold mb__law_turned_about
  simp_arith [M.ok_bind, M.noX_ok, M.bind_assoc, ez, e1, okz, okl0, Bool.and_true, if_true]
  by_cases hA : pick < 3 ∧ zs ≠ []
  · obtain ⟨hp, hz⟩ := hA
    have hzl : 0 < zs.length := List.length_pos_iff.mpr hz
    have hne : PyData.eqvAll zs [] = false := by
      cases zs with
      | nil => exact absurd rfl hz
      | cons _ _ => simp
    obtain ⟨k, s2, e2, k1, k2, hs2'⟩ := next_m hs1 (m := (zs.length : Int)) (by omega) (by omega)
    obtain ⟨d, dm, de⟩ := atI_mem k1 k2
    obtain ⟨one, rfl, ho⟩ := zh d dm
    simp_arith [M.ok_bind, M.noX_ok, M.bind_assoc, hp, decide_true, hne, Bool.not_false, if_true, e2, de]
    by_cases hp0 : pick = 0
    · subst hp0
      obtain ⟨v', e3, tv'⟩ := exchanged_sat 39 (a := one) (b := one + 1) (by omega) (by omega) (tv.mono (b' := 61) (by omega) (Nat.le_refl _) (Nat.le_refl _)) (by omega)
      simp_arith [beq_self_eq_true, M.ok_bind, M.noX_ok, M.bind_assoc, if_true, e3]
      first | exact ⟨tv'.mono (Nat.le_refl _) (Nat.le_refl _) (by omega), hs2'⟩ | (refine Sat.of ?_; exact ⟨tv'.mono (Nat.le_refl _) (Nat.le_refl _) (by omega), hs2'⟩)
    · obtain ⟨k', s3, e3, k1', k2', hs3⟩ := next_m hs2' (m := (zs.length : Int)) (by omega) (by omega)
      obtain ⟨d', dm', de'⟩ := atI_mem k1' k2'
      obtain ⟨two, rfl, ho'⟩ := zh d' dm'
      obtain ⟨v', e4, tv'⟩ := exchanged_sat 39 (a := one) (b := two) (by omega) (by omega) (tv.mono (b' := 61) (by omega) (Nat.le_refl _) (Nat.le_refl _)) (by omega)
      have hb : (pick == 0) = false := by simpa using hp0
      simp_arith [hb, Bool.false_eq_true, if_false, M.ok_bind, M.noX_ok, M.bind_assoc, e3, de', e4]
      first | exact ⟨tv'.mono (Nat.le_refl _) (Nat.le_refl _) (by omega), hs3⟩ | (refine Sat.of ?_; exact ⟨tv'.mono (Nat.le_refl _) (Nat.le_refl _) (by omega), hs3⟩)
  have hA' : (if decide (pick < 3) = true then !PyData.eqvAll zs [] else false) = false := by
    by_cases hz : zs = []
    · subst hz; simp
    · have : ¬ pick < 3 := fun h => hA ⟨h, hz⟩
      simp [this]
  simp_arith [hA', Bool.false_eq_true, if_false, M.ok_bind]
  by_cases hp3 : pick = 3
  · subst hp3
    have c1 : Bq 61 64 u m (cutL ds none (some 1)) := bq_cut dA
    have T1 : Tt (u + 4) (m + 1) (.tuple (cutL ds (some 1) none)) := bq_tup (bq_cut dt) (Nat.le_refl _)
    have l1 : (cutL ds none (some 1)).length = 1 := by rw [cut_one h0]; rfl
    simp_arith [beq_self_eq_true, M.ok_bind, M.noX_ok, M.bind_assoc, if_true]
    by_cases h2 : 2 < ds.length
    · obtain ⟨⟨v', s2⟩, e2, tv', hs2', htp⟩ := cut_sat 39 hs1 T1 (by omega) (by omega) hw
      obtain ⟨L, rfl⟩ := htp isTp
      obtain ⟨m', u', e', e'', bL⟩ := tq_tup tv'
      have e' : m' = m := by omega
      subst e'
      have hL := bL.len
      have : (2 : Int) < ds.length := by omega
      simp_arith [this, decide_true, if_true, e2, M.ok_bind, M.noX_ok]
      ((repeat (rw [if_pos (by (first | assumption | (simp only [List.length_append, List.length_cons, List.length_nil, List.length_take, List.length_drop, List.length_reverse, List.length_map, List.length_dropLast, List.length_tail, List.length_range, Int.toNat_natCast, sizeLine_eq]; omega) | omega))]; simp_arith [M.ok_bind, M.noX_ok, M.bind_assoc])))
      first | exact ⟨bq_tup (bq_app c1 bL) (by omega), hs2'⟩ | (refine Sat.of ?_; exact ⟨bq_tup (bq_app c1 bL) (by omega), hs2'⟩)
    · have h2' : ¬ (2 : Int) < ds.length := by omega
      simp_arith [h2', decide_false, Bool.false_eq_true, if_false, M.ok_bind, M.noX_ok, M.bind_assoc]
      have lt : (cutL ds (some 1) none).length ≤ 1 := by rw [cut_from (by omega), List.length_drop]; simp; omega
      refine Sat.bind (sat_noX.mpr (lcS_sat (P := St) (Q := Ta (7 * (u + 4) + 64) m) (fun b d hd hb => ?_) hs1)) fun r hr => ?_
      · obtain ⟨⟨v', s2⟩, e2, tv', hs2', _⟩ := cut_sat 39 hb ((dt.mem (cut_mem hd)).mono (Nat.le_refl _) (Nat.le_refl _) (Nat.le_add_right u 4)) (by omega) (by omega) hw
        simp_arith [e2, M.ok_bind, M.noX_ok]
        exact ⟨fun y hy => by cases hy; exact tv', hs2'⟩
      · obtain ⟨hq, hl, hst⟩ := hr
        have bL : Bq 61 64 (7 * (u + 4) + 66) m r.1 := by
          match hr1 : r.1 with
          | [] => exact bq_sub (L := []) bq_nil (fun _ h => h) (by simp)
          | [y] => 
            have := bq_cons (hq y (by rw [hr1]; simp)) (bq_nil (b := 61) (c := 64) (n := m))
            exact this
          | _ :: _ :: _ => rw [hr1] at hl; simp at hl; omega
        have hl' := bL.len
        ((repeat (rw [if_pos (by (first | assumption | (simp only [List.length_append, List.length_cons, List.length_nil, List.length_take, List.length_drop, List.length_reverse, List.length_map, List.length_dropLast, List.length_tail, List.length_range, Int.toNat_natCast, sizeLine_eq]; omega) | omega))]; simp_arith [M.ok_bind, M.noX_ok, M.bind_assoc])))
        first | exact ⟨bq_tup (bq_app c1 bL) (by omega), hst⟩ | (refine Sat.of ?_; exact ⟨bq_tup (bq_app c1 bL) (by omega), hst⟩)
  · have hb : (pick == 3) = false := by simpa using hp3
    obtain ⟨k, s2, e2, k1, k2, hs2'⟩ := next_m hs1 (m := (ds.length : Int)) (by omega) (by omega)
    obtain ⟨j, s3, e3, j1, j2, hs3⟩ := next_m hs2' (m := (ds.length : Int)) (by omega) (by omega)
    have kk : 0 ≤ k + 1 := by omega
    have jj : 0 ≤ j + 1 := by omega
    simp_arith [hb, Bool.false_eq_true, if_false, M.ok_bind, M.noX_ok, M.bind_assoc, e2, e3]
    have last : ∀ {L : List D} {q k j : _} {n : Nat}, Bq 61 64 q n L → Bq 61 64 (q + q + q) n (cutL L none (some k) ++ cutL L (some j) (some (j + 1)) ++ cutL L (some (k + 1)) none) := fun b =>
      bq_app (bq_app (bq_cut b) (bq_cut b)) (bq_cut b)
    have sz : ∀ {L : List D} (a b c d e f : Option Int), L.length ≤ 1000000 → (cutL L a b).length + (cutL L c d).length ≤ sizeLine ∧ (cutL L a b ++ cutL L c d).length + (cutL L e f).length ≤ sizeLine := fun {L} a b c d e f h => by
      have h1 := cut_len (ds := L) (lo := a) (hi := b)
      have h2 := cut_len (ds := L) (lo := c) (hi := d)
      have h3 := cut_len (ds := L) (lo := e) (hi := f)
      rw [List.length_append, sizeLine_eq]; omega
    have fin : Sat ((if (if decide (0 < k) = true then decide (0 < j) else false) = true then
              (liftS
                    (if (cutL ds none (some k)).length + (cutL ds (some j) (some (j + 1))).length ≤ sizeLine then
                      some (Sl.sh (PyData.tuple (cutL ds none (some k) ++ cutL ds (some j) (some (j + 1)))))
                    else none)).bind
                fun a => (liftS (addS a (PyData.tuple (cutL ds (some (k + 1)) none)))).bind fun d4 => M.ok d4
            else M.ok (PyData.tuple ds)).bind
          fun a291 => M.ok (a291, s3)) (OddP (u + 4) m) := by
      by_cases hkj : (if decide (0 < k) = true then decide (0 < j) else false) = true
      · rw [if_pos hkj]
        have z := sz (L := ds) none (some k) (some j) (some (j + 1)) (some (k + 1)) none (by omega)
        rw [if_pos z.1]
        simp_arith [M.ok_bind]
        rw [if_pos z.2]
        simp_arith [M.ok_bind]
        first | exact ⟨bq_tup (last dA) (by omega), hs3⟩ | (refine Sat.of ?_; exact ⟨bq_tup (last dA) (by omega), hs3⟩)
      · rw [if_neg hkj]
        first | exact ⟨up tv0, hs3⟩ | (refine Sat.of ?_; exact ⟨up tv0, hs3⟩)
    by_cases h2l : ds.length = 2
    · obtain ⟨a, b, rfl⟩ := two_of h2l
      have ta := dt.mem (d := a) (by simp)
      have tb := dt.mem (d := b) (by simp)
      have c2 : (((List.length [a, b] : Nat) : Int) == 2) = true := by simp
      by_cases hb : ∃ L, b = .tuple L ∧ L ≠ []
      · obtain ⟨L, rfl, hL⟩ := hb
        obtain ⟨m', u', em, rfl, tL⟩ := tq_tup tb
        have hL0 : 0 < L.length := List.length_pos_iff.mpr hL
        have okb : cmpOk (.tuple L) = true := (tb.tm (s := 1000000) (by omega) (by omega)).ok (by omega)
        have hne : PyData.eqvAll L [] = false := by
          cases L with
          | nil => exact absurd rfl hL
          | cons _ _ => simp
        have lL := tL.len
        obtain ⟨k', s4, e4, k1', k2', hs4⟩ := next_m hs3 (m := (L.length : Int)) (by omega) (by omega)
        obtain ⟨j', s5, e5, j1', j2', hs5⟩ := next_m hs4 (m := (L.length : Int)) (by omega) (by omega)
        have z := sz (L := L) none (some k') (some j') (some (j' + 1)) (some (k' + 1)) none (by omega)
        simp_arith [c2, if_true, List.getElem?_cons_succ, List.getElem?_cons_zero, M.ok_bind, okb, ok0, hne, Bool.and_true, Bool.not_false, e4, e5, M.noX_ok]
        rw [if_pos z.1]
        simp_arith [M.ok_bind]
        rw [if_pos z.2]
        simp_arith [M.ok_bind]
        subst em
        have hm := wts_mem (c := 64) (d := .tuple L) (ds := [a, .tuple L]) (by simp)
        first | exact ⟨bq_tup (bq_cons (ta.mono (b' := 61) (by omega) (Nat.le_refl _) (Nat.le_refl _)) (bq_cons (bq_tup (last (tL.mono (b' := 61) (by omega) (Nat.le_refl _) (Nat.le_refl _))) (Nat.le_refl _)) bq_nil)) (by omega), hs5⟩ | (refine Sat.of ?_; exact ⟨bq_tup (bq_cons (ta.mono (b' := 61) (by omega) (Nat.le_refl _) (Nat.le_refl _)) (bq_cons (bq_tup (last (tL.mono (b' := 61) (by omega) (Nat.le_refl _) (Nat.le_refl _))) (Nat.le_refl _)) bq_nil)) (by omega), hs5⟩)
      · have okb : cmpOk b = true := (tb.tm (s := 1000000) (by omega) (by omega)).ok (by omega)
        simp_arith [c2, if_true, List.getElem?_cons_succ, List.getElem?_cons_zero, M.ok_bind, okb, ok0, Bool.and_true]
        cases hi : instAny ["tuple"] b with
        | false =>
          simp only [Bool.false_eq_true, if_false, M.ok_bind]
          exact fin
        | true =>
          cases b with
          | tuple L =>
            have : L = [] := Classical.byContradiction fun q => hb ⟨L, rfl, q⟩
            subst this
            simp_arith [Bool.not_true, Bool.false_eq_true, if_false, if_true, M.ok_bind]
            exact fin
          | _ => simp at hi
    · have c2 : ((ds.length : Int) == 2) = false := by
        rw [beq_eq_false_iff_ne]; omega
      simp only [c2, Bool.false_eq_true, if_false, M.ok_bind]
      exact fin
set_option Elab.async false
set_option linter.all false
set_option maxRecDepth 100000
set_option maxHeartbeats 0
open PySem L2

/-- what may be asked -/
abbrev Asked (w n : Nat) (a : D) : Prop := An 61 64 w n a
def AskP (w n : Nat) (q : D × D) : Prop := Asked (8 * w + 500) (n + 2) q.1 ∧ St q.2
theorem odd_sat {w n : Nat} (hn : n ≤ 37) (hw : w ≤ 1000000) {ds : List D} {st : D} (hs : St st) (h0 : 0 < ds.length) (tv : Tt w (n + 1) (.tuple ds)) :
    Sat (m__law_odd [st, .tuple ds]) (AskP w n) := by
  have tv0 := tv
  obtain ⟨m, u, e, rfl, dt⟩ := tq_tup tv
  have e : m = n := by omega
  subst e
  have dl := dt.len
  have hu := dt.wt
  have dA : Bq 61 64 u (m + 1) ds := dt.mono (by omega) (by omega) (Nat.le_refl _)
  obtain ⟨pick, s1, e1, p1, p2, hs1⟩ := next_m hs (m := 9) (by decide) (by decide)
  obtain ⟨a, am, ae⟩ := atI_mem (ds := ds) (k := 0) (by omega) (by omega)
  have ae' : ds[0]? = some a := by rw [← ae, atI_0]
  have ta := dA.mem am
  have c2 := cut_len (ds := ds) (lo := some 1) (hi := none)
  show Sat (mb__law_odd _ _) _
  unfold mb__law_odd
  simp_arith [M.ok_bind, M.noX_ok, M.bind_assoc, e1, ae']
  ((repeat (rw [if_pos (by (first | assumption | (simp only [List.length_append, List.length_cons, List.length_nil, List.length_take, List.length_drop, List.length_reverse, List.length_map, List.length_dropLast, List.length_tail, List.length_range, Int.toNat_natCast, sizeLine_eq]; omega) | omega))]; simp_arith [M.ok_bind, M.noX_ok, M.bind_assoc])))
  by_cases h4 : 4 < pick
  · obtain ⟨⟨v', s2⟩, e2, tv', hs2'⟩ := turned_sat (by omega) hw hs1 h0 tv0
    simp_arith [h4, decide_true, if_true, e2, M.ok_bind, M.noX_ok]
    exact ⟨.inr (tv'.mono (Nat.le_refl _) (by omega) (by omega)), hs2'⟩
  · simp only [h4, decide_false, Bool.false_eq_true, if_false]
    by_cases hp0 : pick = 0
    · subst hp0
      obtain ⟨k, s2, e2, k1, k2, hs2'⟩ := next_m hs1 (m := 11) (by decide) (by decide)
      simp_arith
      change Sat (M.bind (M.noX (m__law_next [s1, .int 11])) _) _
      simp_arith [e2, M.ok_bind, M.noX_ok, M.bind_assoc, List.cons_append, List.nil_append]
      refine pick_sat3 (P := Asked (8 * (u + 4) + 500) (m + 2)) k1 k2 (fun d hd => ⟨hd, hs2'⟩) ?_
      have I : ∀ {x : Str} {q : Nat}, plainS x = true → x.length ≤ 9 → Ta 13 q (.str x) := fun h1 h2 => tq_str.mpr ⟨h1, by omega⟩
      have J : ∀ {q : Nat} (x : Int), x.natAbs < 256 → Ta 64 q (.int x) := fun x hx => tq_int.mpr ⟨by omega, Nat.le_refl _⟩
      have K : ∀ {L : List D} {q : Nat}, Bq 61 64 q (m + 1) L → q ≤ u + 200 → Asked (8 * (u + 4) + 500) (m + 2) (.tuple L) ∧ Asked (8 * (u + 4) + 500) (m + 2) (.list L) := fun hb hq => ⟨.inr (bq_tup hb (by omega)), .inr (bq_lst hb (by omega))⟩
      have tl : Ta (u + 10) (m + 1) (.list [a]) := by
        have h1 := bq_cons (dt.mem am) (bq_nil (b := 60) (c := 64) (n := m))
        have h2 := wts_mem (c := 64) am
        exact (bq_lst (bq_cons (dt.mem' am) bq_nil) (w' := u + 10) (by omega)).mono (by omega) (Nat.le_refl _) (Nat.le_refl _)
      have s1' : ∀ {x : Str}, plainS x = true → x.length ≤ 9 → Asked (8 * (u + 4) + 500) (m + 2) (.str x) := fun h1 h2 => .inr ((I h1 h2).mono (Nat.le_refl _) (Nat.le_refl _) (by omega))
      exact List.forall_mem_cons.mpr ⟨.inr (tq_none.mpr (by omega)), List.forall_mem_cons.mpr ⟨s1' (by decide +kernel) (by decide +kernel), List.forall_mem_cons.mpr ⟨s1' (by decide +kernel) (by decide +kernel), List.forall_mem_cons.mpr ⟨.inl rfl, List.forall_mem_cons.mpr ⟨(K bq_nil (by omega)).1,
        List.forall_mem_cons.mpr ⟨(K (bq_cut dA) (by omega)).1, List.forall_mem_cons.mpr ⟨(K dA (by omega)).2, List.forall_mem_cons.mpr ⟨(K (bq_app dA (bq_cons (J 0 (by decide)) bq_nil)) (by omega)).1,
        List.forall_mem_cons.mpr ⟨.inr (bq_tup (bq_cons tl (bq_cut dA)) (by omega)), List.forall_mem_cons.mpr ⟨(K (bq_cons (I (by decide +kernel) (by decide +kernel)) (bq_cut dA)) (by omega)).1,
        List.forall_mem_cons.mpr ⟨.inr ((J 7 (by decide)).mono (Nat.le_refl _) (Nat.le_refl _) (by omega)), fun _ h => absurd h List.not_mem_nil⟩⟩⟩⟩⟩⟩⟩⟩⟩⟩⟩
    · obtain ⟨⟨v', s2⟩, e2, tv', hs2'⟩ := changed_sat 39 hs1 tv0 (by omega) (by omega) hw
      have hb : (pick == 0) = false := by simpa using hp0
      simp_arith [hb, e2]
      exact ⟨.inr (tv'.mono (Nat.le_refl _) (by omega) (by omega)), hs2'⟩
set_option Elab.async false
set_option linter.all false
set_option maxRecDepth 100000
set_option maxHeartbeats 0
section
open PySem L2
open PySem.W (keyToks keyToksAll alike alikeAll toks_eqv dataLe)
open PyProof.Rows (itemOrd)

/-! ### sorted -/
mutual
theorem alike_eq : ∀ (x y : D), alike x y = true → PyData.eqv x y = true → x = y
  | .none, y, h, e => by cases y <;> simp [alike] at h ⊢
  | .bool a, y, h, e => by cases y <;> simp [alike, PyData.eqv] at h e ⊢; exact e
  | .int a, y, h, e => by cases y <;> simp [alike, PyData.eqv] at h e ⊢; exact e
  | .str a, y, h, e => by cases y <;> simp [alike, PyData.eqv] at h e ⊢; exact e
  | .list xs, y, h, e => by
    cases y with
    | list ys => simp only [alike, PyData.eqv] at h e; rw [alikeAll_eq xs ys h e]
    | _ => simp [alike] at h
  | .tuple xs, y, h, e => by
    cases y with
    | tuple ys => simp only [alike, PyData.eqv] at h e; rw [alikeAll_eq xs ys h e]
    | _ => simp [alike] at h
  | .dict _, y, h, e => by cases y <;> simp [alike] at h
theorem alikeAll_eq : ∀ (xs ys : List D), alikeAll xs ys = true → PyData.eqvAll xs ys = true → xs = ys
  | [], ys, h, e => by cases ys <;> simp [PyData.eqvAll] at e ⊢
  | x :: xs, ys, h, e => by
    cases ys with
    | nil => simp [PyData.eqvAll] at e
    | cons y ys =>
      simp only [alikeAll, PyData.eqvAll, Bool.and_eq_true] at h e
      rw [alike_eq x y h.1 e.1, alikeAll_eq xs ys h.2 e.2]
end
theorem toks_inj {x y : D} (h : alike x y = true) (e : keyToks x = keyToks y) : x = y := by
  cases hv : PyData.eqv x y with
  | true => exact alike_eq x y h hv
  | false =>
    have k := (toks_eqv x y h).2 hv
    rw [e] at k
    have k1 := k [] [.inl 0]
    have k2 := k [] []
    have self : ∀ (l m : List (Int ⊕ List Nat)) (t : List (Int ⊕ List Nat)), PyProof.Rows.lexLt itemOrd (t ++ l) (t ++ m) = PyProof.Rows.lexLt itemOrd l m := fun l m t => PySem.W.lex_pre t l m
    rw [self] at k1 k2
    rw [← k2] at k1
    have : PyProof.Rows.lexLt itemOrd [] [Sum.inl 0] = true := rfl
    rw [this] at k1
    have z : PyProof.Rows.lexLt itemOrd [] [] = false := rfl
    rw [z] at k1; cases k1
def leD (a b : D) : Bool := dataLe false id a b
theorem leD_tot : PySem.W.TotalLe leD := PySem.W.sortLe_total (PyProof.Rows.listOrd itemOrd) false fun b => keyToks b
theorem leD_or (a b : D) : (leD a b || leD b a) = true := by rw [Bool.or_eq_true]; exact leD_tot.total a b
theorem leD_anti {a b : D} (h : alike a b = true) (h1 : leD a b = true) (h2 : leD b a = true) : a = b := by
  refine toks_inj h ?_
  have h1 : PyProof.Rows.lexLt itemOrd (keyToks b) (keyToks a) = false := by
    have : (!PyProof.Rows.lexLt itemOrd (keyToks b) (keyToks a)) = true := h1
    rwa [Bool.not_eq_true'] at this
  have h2 : PyProof.Rows.lexLt itemOrd (keyToks a) (keyToks b) = false := by
    have : (!PyProof.Rows.lexLt itemOrd (keyToks a) (keyToks b)) = true := h2
    rwa [Bool.not_eq_true'] at this
  exact (PyProof.Rows.listOrd itemOrd).total _ _ h2 h1
theorem sortL_perm (ds : List D) : (sortL ds).Perm ds := List.mergeSort_perm ds _
theorem sortL_pair (ds : List D) : (sortL ds).Pairwise fun a b => leD a b = true := List.pairwise_mergeSort leD_tot.trans leD_or ds
/-- the sorted list is told by its order -/
theorem sort_uniq {ds es : List D} (ha : ∀ a ∈ ds, ∀ b ∈ ds, alike a b = true) (hp : es.Perm ds) (hs : es.Pairwise fun a b => leD a b = true) : sortL ds = es :=
  List.Perm.eq_of_pairwise (le := fun a b => leD a b = true) (fun a b h1 h2 l1 l2 => leD_anti (ha a ((sortL_perm ds).mem_iff.mp h1) b (hp.mem_iff.mp h2)) l1 l2) (sortL_pair ds) hs ((sortL_perm ds).trans hp.symm)
def insD (a : D) : List D → List D
  | [] => [a]
  | b :: l => if leD a b = true then a :: b :: l else b :: insD a l
def isort : List D → List D
  | [] => []
  | a :: l => insD a (isort l)
theorem insD_perm (a : D) : ∀ l : List D, (insD a l).Perm (a :: l)
  | [] => List.Perm.refl _
  | b :: l => by
    unfold insD
    split
    · exact List.Perm.refl _
    · exact ((insD_perm a l).cons b).trans (List.Perm.swap a b l)
theorem isort_perm : ∀ l : List D, (isort l).Perm l
  | [] => List.Perm.refl _
  | a :: l => (insD_perm a (isort l)).trans ((isort_perm l).cons a)
theorem insD_pair (a : D) : ∀ {l : List D}, l.Pairwise (fun a b => leD a b = true) → (insD a l).Pairwise fun a b => leD a b = true
  | [], _ => List.pairwise_singleton _ _
  | b :: l, h => by
    unfold insD
    have hb := List.pairwise_cons.mp h
    split
    · rename_i hab
      refine List.pairwise_cons.mpr ⟨fun c hc => ?_, h⟩
      rcases List.mem_cons.mp hc with rfl | hc
      · exact hab
      · exact leD_tot.trans a b c hab (hb.1 c hc)
    · rename_i hab
      refine List.pairwise_cons.mpr ⟨fun c hc => ?_, insD_pair a hb.2⟩
      rcases List.mem_cons.mp ((insD_perm a l).mem_iff.mp hc) with rfl | hc
      · exact (leD_tot.total c b).resolve_left hab
      · exact hb.1 c hc
theorem isort_pair : ∀ l : List D, (isort l).Pairwise fun a b => leD a b = true
  | [] => List.Pairwise.nil
  | a :: l => insD_pair a (isort_pair l)
theorem sortL_isort {ds : List D} (ha : ∀ a ∈ ds, ∀ b ∈ ds, alike a b = true) : sortL ds = isort ds := sort_uniq ha (isort_perm ds) (isort_pair ds)
def isortF : List D → Option Sl
  | [.list ds] => if sortOk ds = true then some (.ow (.list (isort ds))) else none
  | [.tuple ds] => if sortOk ds = true then some (.ow (.list (isort ds))) else none
  | _ => none
theorem sortOk_al {ds : List D} (h : sortOk ds = true) : ∀ a ∈ ds, ∀ b ∈ ds, alike a b = true := by
  unfold sortOk at h
  simp only [Bool.and_eq_true] at h
  intro a ha b hb
  exact List.all_eq_true.mp (List.all_eq_true.mp h.1.1 a ha) b hb
/-- sorted, as it can be reckoned -/
theorem sortF_eq : sortF = isortF := by
  have k : ∀ ds : List D, (if sortOk ds = true then some (Sl.ow (.list (sortL ds))) else none) = if sortOk ds = true then some (Sl.ow (.list (isort ds))) else none := fun ds => by
    by_cases h : sortOk ds = true
    · rw [if_pos h, if_pos h, sortL_isort (sortOk_al h)]
    · rw [if_neg h, if_neg h]
  funext as
  match as with
  | [.list ds] => exact k ds
  | [.tuple ds] => exact k ds
  | [] => rfl
  | [.none] => rfl
  | [.bool _] => rfl
  | [.int _] => rfl
  | [.str _] => rfl
  | [.dict _] => rfl
  | a :: _ :: _ => cases a <;> rfl
/-! ### are two data the same: reckoned -/
mutual
def eqD : D → D → Bool
  | .none, .none => true
  | .bool a, .bool b => a == b
  | .int a, .int b => a == b
  | .str a, .str b => a == b
  | .list a, .list b => eqDs a b
  | .tuple a, .tuple b => eqDs a b
  | _, _ => false
def eqDs : List D → List D → Bool
  | [], [] => true
  | a :: l, b :: m => eqD a b && eqDs l m
  | _, _ => false
end
mutual
theorem eqD_ok : ∀ {a b : D}, eqD a b = true → a = b
  | .none, b, h => by cases b <;> simp [eqD] at h ⊢
  | .bool _, b, h => by cases b <;> simp [eqD] at h ⊢; exact h
  | .int _, b, h => by cases b <;> simp [eqD] at h ⊢; exact h
  | .str _, b, h => by cases b <;> simp [eqD] at h ⊢; exact h
  | .list l, b, h => by
    cases b with
    | list m => simp only [eqD] at h; rw [eqDs_ok h]
    | _ => simp [eqD] at h
  | .tuple l, b, h => by
    cases b with
    | tuple m => simp only [eqD] at h; rw [eqDs_ok h]
    | _ => simp [eqD] at h
  | .dict _, b, h => by cases b <;> simp [eqD] at h
theorem eqDs_ok : ∀ {a b : List D}, eqDs a b = true → a = b
  | [], b, h => by cases b <;> simp [eqDs] at h ⊢
  | x :: l, b, h => by
    cases b with
    | nil => simp [eqDs] at h
    | cons y m => simp only [eqDs, Bool.and_eq_true] at h; rw [eqD_ok h.1, eqDs_ok h.2]
end
def eqM : M D → D → Bool
  | .ok a, b => eqD a b
  | _, _ => false
theorem eqM_ok {m : M D} {b : D} (h : eqM m b = true) : m = .ok b := by
  cases m with
  | ok a => rw [eqD_ok h]
  | exc c => cases h
  | err => cases h
/-! ### repr -/
theorem textFrom_ok : ∀ (ts : List Str) (k : Nat) (acc : Str), (∀ c ∈ cpl acc, c < 0x110000) → (∀ t ∈ ts, ∀ c ∈ cpl t, c < 0x110000) → ∀ c ∈ cpl (textFrom k acc ts), c < 0x110000
  | [], k, acc, ha, _, c, hc => ha c hc
  | t :: ts, k, acc, ha, ht, c, hc => by
    have h1 := ht t List.mem_cons_self
    refine textFrom_ok ts (k + 1) _ (fun c hc => ?_) (fun u hu => ht u (List.mem_cons_of_mem _ hu)) c hc
    rw [cpl_add, cpl_add] at hc
    rcases List.mem_append.mp hc with hc | hc
    · rcases List.mem_append.mp hc with hc | hc
      · exact ha c hc
      · by_cases hk : k > 0
        · rw [if_pos hk] at hc
          have : c ∈ [44, 32] := hc
          simp at this; omega
        · rw [if_neg hk] at hc
          have : c ∈ ([] : List Nat) := hc
          simp at this
    · exact h1 c hc
mutual
theorem shown_ok {b : Nat} : ∀ (d : D), okq b d = true → ∀ c ∈ cpl d.shown, c < 0x110000
  | .none, _ => by
    have : (cpl (PyData.shown .none)).all (fun c => decide (c < 0x110000)) = true := by simp only [PyData.shown]; decide +kernel
    exact fun c hc => of_decide_eq_true (List.all_eq_true.mp this c hc)
  | .bool x, _ => by
    have : (cpl (PyData.shown (.bool x))).all (fun c => decide (c < 0x110000)) = true := by simp only [PyData.shown]; cases x <;> decide +kernel
    exact fun c hc => of_decide_eq_true (List.all_eq_true.mp this c hc)
  | .int i, h => by
    simp only [PyData.shown]
    exact fun c hc => (plainS_eq.mp (plain_num i) c hc).2.2.2
  | .str x, h => by
    simp only [okq] at h
    simp only [PyData.shown]
    rw [repr_plain h]
    intro c hc
    rcases List.mem_cons.mp hc with rfl | hc
    · omega
    · rcases List.mem_append.mp hc with hc | hc
      · exact (plainS_eq.mp h c hc).2.2.2
      · simp at hc; omega
  | .tuple ds, h => by
    simp only [okq] at h
    rw [shown_tuple]
    intro c hc
    rcases List.mem_cons.mp hc with rfl | hc
    · omega
    · exact body_ok ds h c hc
  | .list ds, h => by
    simp only [okq] at h
    have e0 : PyData.shown (.list ds) = listText (PyData.shownAll ds) := by simp only [PyData.shown]
    rw [e0]
    unfold listText
    intro c hc
    rw [cpl_add] at hc
    rcases List.mem_append.mp hc with hc | hc
    · refine textFrom_ok (PyData.shownAll ds) 0 "[" (fun c hc => ?_) (all_ok ds h) c hc
      have : c ∈ [91] := hc
      simp at this; omega
    · have : c ∈ [93] := hc
      simp at this; omega
  | .dict _, h => by simp [okq] at h
theorem all_ok {b : Nat} : ∀ (ds : List D), okqA b ds = true → ∀ t ∈ PyData.shownAll ds, ∀ c ∈ cpl t, c < 0x110000
  | [], _ => by simp [PyData.shownAll]
  | d :: ds, h => by
    simp only [okqA, Bool.and_eq_true] at h
    simp only [PyData.shownAll]
    exact List.forall_mem_cons.mpr ⟨shown_ok d h.1, all_ok ds h.2⟩
theorem rest_ok' {b : Nat} : ∀ (ds : List D), okqA b ds = true → ∀ c ∈ restT ds, c < 0x110000
  | [], _ => by intro c hc; simp [restT] at hc; omega
  | d :: ds, h => by
    simp only [okqA, Bool.and_eq_true] at h
    intro c hc
    simp only [restT, List.mem_cons, List.mem_append] at hc
    rcases hc with rfl | rfl | hc | hc
    · omega
    · omega
    · exact shown_ok d h.1 c hc
    · exact rest_ok' ds h.2 c hc
theorem body_ok {b : Nat} : ∀ (ds : List D), okqA b ds = true → ∀ c ∈ bodyT ds, c < 0x110000
  | [], _ => by intro c hc; simp [bodyT] at hc; omega
  | [d], h => by
    simp only [okqA, Bool.and_eq_true] at h
    intro c hc
    simp only [bodyT, List.mem_append] at hc
    rcases hc with hc | hc
    · exact shown_ok d h.1 c hc
    · simp at hc; omega
  | d :: e :: ds, h => by
    have h' : okq b d = true ∧ okqA b (e :: ds) = true := by simpa [okqA] using h
    intro c hc
    simp only [bodyT, List.mem_append] at hc
    rcases hc with hc | hc
    · exact shown_ok d h'.1 c hc
    · exact rest_ok' (e :: ds) h'.2 c hc
end
theorem strOk_shown {b : Nat} {d : D} (h : okq b d = true) : PyData.strOk d.shown = true := strOk_iff.mpr (shown_ok d h)
theorem repr_tup {b w n : Nat} {ds : List D} (h : Tq b 64 w n (.tuple ds)) (hb : b ≤ 62) (hw : w ≤ 16000000) (hn : n ≤ 64) : reprD [.tuple ds] = some (.str (PyData.shown (.tuple ds))) := by
  have h1 := showable_ok (by omega) _ h.ok
  have h2 := shown_len (c := 64) (by omega) _ h.ok
  have h3 := h.wt
  have h4 := h.dp
  show (if (PyData.showable (.tuple ds) && !PyData.hasDict (.tuple ds) && decide (PyData.depth (.tuple ds) ≤ 64) && decide ((PyData.shown (.tuple ds)).length ≤ sizeLine)) = true then some (PyData.str (PyData.shown (.tuple ds))) else none) = _
  rw [if_pos]
  rw [h1.1, h1.2]
  simp only [Bool.not_false, Bool.true_and, Bool.and_eq_true, decide_eq_true_eq]
  rw [sizeLine_eq]
  omega
end
set_option Elab.async false
set_option linter.all false
set_option maxRecDepth 100000
set_option maxHeartbeats 0
open PySem L2
def mb_told_alike (v0 v1 : D) : M (D) :=
  (((M.ok v0).bind fun x1 => (liftO (truD (.bool (instAny ["tuple"] x1)))).bind fun t28 => if t28 = true then (((((M.ok v0).bind fun x2 => (M.ok []).bind fun x3 => M.ok (x2 :: x3)).bind fun x4 => (liftO (lenD x4)).bind fun d5 => M.ok d5).bind fun x6 => (((M.ok v1).bind fun x7 => (M.ok []).bind fun x8 => M.ok (x7 :: x8)).bind fun x9 => (liftO (lenD x9)).bind fun d10 => M.ok d10).bind fun x11 => (liftO ((opBD eqB) x6 x11)).bind fun d12 => M.ok d12).bind fun x13 => (liftO (truD x13)).bind fun t26 => if t26 = true then ((((M.ok v0).bind fun x14 => (M.ok []).bind fun x15 => M.ok (x14 :: x15)).bind fun x16 => (liftO (reprD x16)).bind fun d17 => M.ok d17).bind fun x18 => (((M.ok v1).bind fun x19 => (M.ok []).bind fun x20 => M.ok (x19 :: x20)).bind fun x21 => (liftO (reprD x21)).bind fun d22 => M.ok d22).bind fun x23 => (liftO ((opBD eqB) x18 x23)).bind fun d24 => M.ok d24) else M.ok x13) else M.ok (.bool (instAny ["tuple"] x1))).bind fun a29 => M.ok a29)
def mc_told_alike (ds : List D) : M (D) := match ds with
  | [v0, v1] => mb_told_alike v0 v1
  | _ => .err
def m_told_alike : List D → M (D) := mc_told_alike
theorem mdb_told_alike (v0 v1 : D) : Fr (mb_told_alike v0 v1) (fnD 2 [] b_told_alike [v0, v1]) := fr_of (n := 2) (ds := [v0, v1]) (by delta b_told_alike; exact (rt_ret0 rfl kdSh (es_sh (ed_andVL (v := fun (q : D) => q) (ρ' := fun _ => [.sh v0, .sh v1]) (ed_isi (ed_bor (i := 0) (by rfl))) (fun x1 => (ed_andVL (v := fun (q : D) => q) (ρ' := fun _ => [.sh v0, .sh v1]) (ed_bin0 (ed_ops0 (el_cons0 (ed_bor (i := 0) (by rfl)) (fun x2 => el_nil))) (fun x6 => (ed_ops0 (el_cons0 (ed_bor (i := 1) (by rfl)) (fun x7 => el_nil))))) (fun x13 => (ed_bin0 (ed_ops0 (el_cons0 (ed_bor (i := 0) (by rfl)) (fun x14 => el_nil))) (fun x18 => (ed_ops0 (el_cons0 (ed_bor (i := 1) (by rfl)) (fun x19 => el_nil)))))) (by intros; rfl) (fun x13 => by (first | exact LeE.refl _ | (unfold LeE; (repeat' (first | exact All2.nil | refine All2.cons ?_ ?_)) <;> first | exact trivial | exact rfl | exact Or.inl rfl | exact Or.inr (Or.inl rfl) | exact Or.inr (Or.inr (Or.inl rfl)) | exact Or.inr (Or.inr (Or.inr rfl)) | exact Or.inr ⟨rfl, rfl⟩ | exact Or.inr (Or.inl ⟨rfl, rfl⟩) | exact Or.inr (Or.inr ⟨rfl, rfl⟩)))))) (by intros; rfl) (fun x1 => by (first | exact LeE.refl _ | (unfold LeE; (repeat' (first | exact All2.nil | refine All2.cons ?_ ?_)) <;> first | exact trivial | exact rfl | exact Or.inl rfl | exact Or.inr (Or.inl rfl) | exact Or.inr (Or.inr (Or.inl rfl)) | exact Or.inr (Or.inr (Or.inr rfl)) | exact Or.inr ⟨rfl, rfl⟩ | exact Or.inr (Or.inl ⟨rfl, rfl⟩) | exact Or.inr (Or.inr ⟨rfl, rfl⟩)))))) (fun _ _ _ _ => trivial)))
theorem md_told_alike (ds : List D) : Fr (m_told_alike ds) (d_told_alike ds) := match ds with
    | [v0, v1] => mdb_told_alike v0 v1
    | [] => trivial
    | [_] => trivial
    | _ :: _ :: _ :: _ => trivial
set_option Elab.async false
set_option linter.all false
set_option maxRecDepth 100000
set_option maxHeartbeats 0
open PySem L2

/-- what is due: plain, and short enough -/
structure Due (b w n : Nat) (e : D) : Prop where
  tq : Tq b 64 w n e
  pl : plN e = true
theorem plN_Pl : ∀ {e : D}, plN e = true → Pl e := by
  intro e
  suffices h : ∀ (s : Nat) (e : D), sizeOf e ≤ s → plN e = true → Pl e from h _ e (Nat.le_refl _)
  intro s
  induction s with
  | zero => intro e h; cases e <;> simp at h <;> omega
  | succ s ih =>
    intro e hs h
    cases e with
    | none => exact .none
    | bool b => exact .bool b
    | int i => exact .int i
    | str x => exact .str x
    | list ds => simp [plN] at h
    | dict ds => simp [plN] at h
    | tuple ds =>
      refine .tuple ds fun d hd => ih d ?_ ?_
      · have := List.sizeOf_lt_of_mem hd; simp at hs; omega
      · have key : ∀ ds : List D, plNA ds = true → ∀ d ∈ ds, plN d = true := fun ds => by
          induction ds with
          | nil => intro _ d hd; exact absurd hd List.not_mem_nil
          | cons x xs ih =>
            intro h
            simp only [plNA, Bool.and_eq_true] at h
            exact List.forall_mem_cons.mpr ⟨h.1, ih h.2⟩
        exact key ds (by simpa only [plN] using h) d hd
theorem shown_eqv {a e : D} (hp : plN e = true) : PyData.eqv (.str a.shown) (.str e.shown) = sameD a e := by
  rw [eqvS, Bool.eq_iff_iff, sameD_iff, beq_iff_eq]
  exact shown_inj hp
section
variable {b w n w' n' b' : Nat} {x : D} {es : List D}
theorem told_alike_ok (hx : An b 64 w n x) (hd : Due b' w' n' (.tuple es)) (hb : b ≤ 62) (hb' : b' ≤ 62) (hw : w ≤ 16000000) (hw' : w' ≤ 16000000) (hn : n ≤ 64) (hn' : n' ≤ 64) :
    m_told_alike [x, .tuple es] = .ok (.bool (sameD x (.tuple es))) := by
  show mb_told_alike _ _ = _
  unfold mb_told_alike
  rcases hx with rfl | hx
  · simp [sameD_f]
  cases x with
  | tuple ds =>
    have r1 := repr_tup hx hb hw hn
    have r2 := repr_tup hd.tq hb' hw' hn'
    have s1 := strOk_shown hx.ok
    have s2 := strOk_shown hd.tq.ok
    by_cases hl : ds.length = es.length
    · simp [hl, r1, r2, s1, s2]
      have := shown_eqv (a := .tuple ds) hd.pl
      rw [eqvS] at this
      exact this
    · have : ((ds.length : Int) == es.length) = false := by rw [beq_eq_false_iff_ne]; omega
      have hne : (PyData.tuple ds) ≠ .tuple es := fun h => by cases h; exact hl rfl
      simp [this, sameD_f hne]
  | _ => simp [sameD_f]
end
set_option Elab.async false
set_option linter.all false
set_option maxRecDepth 100000
set_option maxHeartbeats 0
open PySem L2

/-! ### what all laws of papers have: what is told is turned, and asked -/
/-- one question -/
def askB (jm am : D → M D) (told seen : D) (b d : D) : M (St1 D D) :=
  (liftO (ltB d (.int 8))).bind fun t => (if t = true then (m__law_odd [b, told]).bind fun x => M.ok (x.1, x.2) else (liftO (subD d (.int 8))).bind fun y => (liftO (ixD seen y)).bind fun x => M.ok (x, b)).bind fun a =>
    (jm a.1).bind fun x => (am a.1).bind fun y => (m__law_same 40 [x, y]).bind fun d => (liftO (truD d)).bind fun t => if (!t) = true then M.ok (.rt (.bool false)) else M.ok (.nx a.2)
/-- what may be asked of a paper -/
abbrev Gd (x : D) : Prop := An 61 64 8001000 40 x
theorem told_gd {w n : Nat} {ds : List D} (tv : Tt w (n + 1) (.tuple ds)) (hn : n ≤ 37) (hw : w ≤ 1000000) : Gd (.tuple ds) := .inr (tv.mono (by omega) (by omega) (by omega))
theorem ask_loop {jm am : D → M D} {J : D → Bool} (hj : ∀ x, Gd x → jm x = .ok (.bool (J x))) (ha : ∀ x, Gd x → am x = .ok (.bool (J x)))
    {w n : Nat} (hn : n ≤ 37) (hw : w ≤ 1000000) {ds L : List D} (h0 : 0 < ds.length) (tv : Tt w (n + 1) (.tuple ds)) (hL : ∀ d ∈ L, Gd d) {m : Nat} (hm : m = 8 + L.length) {st : D} (hs : St st) :
    Sat (forM (askB jm am (.tuple ds) (.list L)) (rngD 0 (m : Int)) st) fun r => ∃ st', r = .inl st' ∧ St st' := by
  refine forM_sat (P := St) (fun b d hd hb => ?_) (fun b hb => ⟨b, rfl, hb⟩) hs
  obtain ⟨i, hi⟩ := List.mem_iff_getElem?.mp hd
  obtain ⟨h1, rfl⟩ := rngD_get hi
  have fin : ∀ x st', Gd x → St st' → Sat ((jm x).bind fun y => (am x).bind fun z => (m__law_same 40 [y, z]).bind fun d => (liftO (truD d)).bind fun t => if (!t) = true then M.ok (St1.rt (.bool false)) else M.ok (.nx st')) (EndP St fun r : D ⊕ D => ∃ st', r = .inl st' ∧ St st') := fun x st' hx hs' => by
    rw [hj x hx, ha x hx]
    simp_arith [same_bool, beq_self_eq_true]
    exact hs'
  unfold askB
  by_cases h8 : (i : Int) < 8
  · obtain ⟨⟨x, st'⟩, e, hx, hs'⟩ := odd_sat hn hw hb h0 tv
    simp_arith [h8, e]
    refine fin x st' ?_ hs'
    rcases hx with hx | hx
    · exact .inl hx
    · exact .inr (hx.mono (Nat.le_refl _) (by omega) (by omega))
  · have hi2 : i - 8 < L.length := by omega
    have e : atI L ((i : Int) - 8) = some L[i - 8] := by
      rw [zatI_nat _ (by omega)]
      have : ((i : Int) - 8).toNat = i - 8 := by omega
      rw [this, List.getElem?_eq_getElem hi2]
    simp_arith [h8, e]
    exact fin _ b (hL _ (List.getElem_mem hi2)) hb
/-- the last ones that were told, and one more -/
theorem seen_next {L : List D} {d : D} (hL : ∀ d ∈ L, Gd d) (hd : Gd d) : ∃ L', liftS (addS (.list (cutL L (some (-3)) none)) (.list [d])) = .ok (.list L') ∧ (∀ d ∈ L', Gd d) ∧ L'.length ≤ 4 := by
  have hl : (cutL L (some (-3)) none).length ≤ 3 := by
    have e := cut_back (ds := L) (j := 3) (by omega)
    rw [e, List.length_drop]
    have : (3 : Int).toNat = 3 := rfl
    omega
  refine ⟨cutL L (some (-3)) none ++ [d], ?_, fun x hx => ?_, by rw [List.length_append]; simp; omega⟩
  · simp_arith
    rw [if_pos (by rw [sizeLine_eq]; simp; omega)]
    rfl
  · rcases List.mem_append.mp hx with hx | hx
    · exact hL x (cut_mem hx)
    · rw [List.mem_singleton.mp hx]; exact hd
/-- the end of a turn -/
def tailB (jm am : D → M D) (told st seen : D) : M (St1 (D × D) D) :=
  (liftS (cutF seen (some (-3)) none)).bind fun a5 => (liftS (addS a5 (.list [told]))).bind fun a4 => (liftO (lenD [a4])).bind fun a6 => (liftS (addS (.int 8) a6)).bind fun a7 => (rng1 a7).bind fun l =>
    (forM (askB jm am told a4) l st).bind (orRet (fun b => M.ok (.nx (b, a4))) .rt)
/-- between the turns -/
def TurnI (b : D × D) : Prop := St b.1 ∧ ∃ L, b.2 = .list L ∧ (∀ d ∈ L, Gd d) ∧ L.length ≤ 4
theorem tail_sat {jm am : D → M D} {J : D → Bool} (hj : ∀ x, Gd x → jm x = .ok (.bool (J x))) (ha : ∀ x, Gd x → am x = .ok (.bool (J x)))
    {w n : Nat} (hn : n ≤ 37) (hw : w ≤ 1000000) {ds : List D} (h0 : 0 < ds.length) (tv : Tt w (n + 1) (.tuple ds)) {st seen : D} (hb : TurnI (st, seen)) {Q : (D × D) ⊕ D → Prop} :
    Sat (tailB jm am (.tuple ds) st seen) (EndP TurnI Q) := by
  obtain ⟨hs, L, e, hL, hl⟩ := hb
  have e : seen = .list L := e
  subst e
  obtain ⟨L', e', hL', hl'⟩ := seen_next hL (told_gd tv hn hw)
  unfold tailB
  rw [cutF_list, liftS_ow, M.ok_bind, e', M.ok_bind]
  have ok : rngOk 0 ((8 : Int) + (L'.length : Int)) = true := by
    have : ((8 : Int) + (L'.length : Int)) = ((8 + L'.length : Nat) : Int) := by omega
    rw [this]; exact rngOk_n (by omega)
  simp_arith [ok]
  have e8 : ((8 : Int) + (L'.length : Int)) = ((8 + L'.length : Nat) : Int) := by omega
  rw [e8]
  refine Sat.bind (ask_loop hj ha hn hw h0 tv hL' rfl hs) fun r hr => ?_
  obtain ⟨st', rfl, hs'⟩ := hr
  simp_arith
  exact ⟨hs', L', rfl, hL', hl'⟩
/-- three turns -/
theorem turns_sat {body : D × D → D → M (St1 (D × D) D)} (h : ∀ st seen d, TurnI (st, seen) → Sat (body (st, seen) d) (EndP TurnI fun _ => False)) {ns : List Int} {ds : List D} :
    Sat ((forM body ds (.list [.list (ns.map .int), .int 0, .int 0, .int 1], .list [])).bind (orRet (fun _ => M.ok (.bool true)) id)) (· = .bool true) := by
  refine Sat.bind (P := fun r => ∃ b, r = .inl b) (forM_sat (P := TurnI) (fun b d _ hb => ?_) (fun b _ => ⟨b, rfl⟩) ⟨⟨ns, 0, 0, 1, rfl, by omega, by omega, by omega⟩, [], rfl, fun _ h => absurd h List.not_mem_nil, by simp⟩) fun r hr => ?_
  · refine (h b.1 b.2 d hb).mono fun r hr => ?_
    cases r with
    | nx b => exact hr
    | br b => exact hr.elim
    | rt w => exact hr.elim
  · obtain ⟨b, rfl⟩ := hr
    simp_arith [sat_ok]
/-- from the law's answer in direct style to its reading -/
theorem plain_of {m : M D} {r : Rs} (h : Fr m r) (s : Sat m (· = .bool true)) : ∃ s, r = .ok s [] ∧ VS s (.bool true) := by
  obtain ⟨a, rfl, rfl⟩ := s
  exact h
theorem law_spV {K : PySem.W.Frag} {cls : Nat → Option Value} {φ : Fd} {H : Hp} {a : Addr} {ns : List Int} (rd : Rd H a (.lst (ns.map V.int))) (h : ∃ s, φ [.list (ns.map .int)] = .ok s [] ∧ VS s (.bool true)) :
    spD cls 1 [] φ [.ref a] H (fun v _ => v = .bl true) noX := by
  have rp : RpAll (fun _ => False) H (ns.map .int) (ns.map V.int) := by
    clear h rd
    induction ns with
    | nil => rfl
    | cons n ns ih => exact ⟨_, _, rfl, rfl, ih⟩
  refine ⟨fun _ => False, [.list (ns.map .int)], fun _ z => z.elim, ⟨rfl, fun i d _ hd => ?_, (fun i d z => nomatch z), (fun i j p z => nomatch z)⟩, rfl, ?_⟩
  · cases i with
    | zero =>
      cases hd
      exact ⟨_, rfl, a, _, rfl, (fun z => z), rd, rp⟩
    | succ i => cases hd
  · obtain ⟨s, h, v⟩ := h
    rw [h]
    rcases v with rfl | rfl
    · intro v O' H' _ _ _ _ _ vo _
      exact vo
    · intro v O' H' _ _ _ _ _ vo _
      obtain ⟨p, _, _, _, z⟩ := vo
      exact z.elim
set_option Elab.async false
set_option linter.all false
set_option maxRecDepth 100000
set_option maxHeartbeats 0
open PySem L2
def mb_ball (v0 : D) : M (D) :=
  (((M.ok v0).bind fun x1 => (M.ok (.int 1)).bind fun x2 => (liftO (ltB x1 x2)).bind fun d3 => M.ok d3).bind fun t4 => if t4 = true then (M.exc 0) else (((M.ok v0).bind fun x5 => (M.ok (.int 6)).bind fun x6 => (liftO (gtB x5 x6)).bind fun d7 => M.ok d7).bind fun t8 => if t8 = true then (M.exc 1) else ((((((M.ok v0).bind fun x9 => (rng1 x9).bind fun l10 => M.ok l10).bind fun l11 => (lcE (fun d12 => (M.ok ()).bind fun t13 => ((M.ok (.str "n")).bind fun x15 => (((M.ok d12).bind fun x16 => (M.ok []).bind fun x17 => M.ok (x16 :: x17)).bind fun x18 => (liftO (strD x18)).bind fun d19 => M.ok d19).bind fun x20 => (liftS (addS x15 x20)).bind fun d21 => M.ok d21).bind fun y22 => M.ok y22) l11).noX.bind fun r23 => M.ok r23).bind fun x24 => (M.ok []).bind fun x25 => M.ok ((.list x24) :: x25)).bind fun x26 => (liftO (tupX x26)).bind fun d27 => M.ok d27).bind fun a28 => ((((M.ok v0).bind fun x29 => (M.ok (.int 1)).bind fun x30 => (liftO (gtB x29 x30)).bind fun d31 => M.ok d31).bind fun t32 => if t32 = true then ((((M.ok v0).bind fun x33 => (rng1 x33).bind fun l34 => M.ok l34).bind fun l35 => (lcE (fun d36 => (M.ok ()).bind fun t37 => (((M.ok a28).bind fun x39 => (M.ok ()).bind fun x40 => ((M.ok d36).bind fun x41 => (intM x41).bind fun i42 => M.ok i42).bind fun x43 => (liftS (cutF x39 none (some x43))).bind fun d44 => M.ok d44).bind fun x45 => ((M.ok a28).bind fun x46 => (((M.ok d36).bind fun x47 => (M.ok (.int 1)).bind fun x48 => (liftS (addS x47 x48)).bind fun d49 => M.ok d49).bind fun x50 => (intM x50).bind fun i51 => M.ok i51).bind fun x52 => (M.ok ()).bind fun x53 => (liftS (cutF x46 (some x52) none)).bind fun d54 => M.ok d54).bind fun x55 => (liftS (addS x45 x55)).bind fun d56 => M.ok d56).bind fun y57 => M.ok y57) l35).noX.bind fun r58 => M.ok r58).bind fun x59 => M.ok (.list x59)) else ((M.ok []).bind fun x60 => M.ok (.list x60))).bind fun a61 => (((M.ok (.str "shape")).bind fun x62 => (((M.ok a28).bind fun x63 => (M.ok []).bind fun x64 => M.ok (x63 :: x64)).bind fun x65 => ((((((M.ok a61).bind fun x66 => (M.ok []).bind fun x67 => M.ok (x66 :: x67)).bind fun x68 => (liftS (sortF x68)).bind fun d69 => M.ok d69).bind fun x70 => (M.ok []).bind fun x71 => M.ok (x70 :: x71)).bind fun x72 => (liftO (tupX x72)).bind fun d73 => M.ok d73).bind fun x74 => (M.ok []).bind fun x75 => M.ok (x74 :: x75)).bind fun x76 => M.ok ((.tuple x65) :: x76)).bind fun x77 => M.ok (x62 :: x77)).bind fun a78 => M.ok (.tuple a78))))))
def mc_ball (ds : List D) : M (D) := match ds with
  | [v0] => mb_ball v0
  | _ => .err
def m_ball : List D → M (D) := mc_ball
theorem mdb_ball (v0 : D) : Fr (mb_ball v0) (fnD 4 [] b_ball [v0]) := fr_of (n := 4) (ds := [v0]) (by delta b_ball; exact (rt_seq (rt_if (ed_binB0 (ed_bor (i := 0) (by rfl)) (fun x1 => ed_con)) (fun _ _ _ _ => trivial) (fun t4 => (rt_raise (fun _ _ _ _ => trivial))) (fun t4 => (rt_skip (rk_of (rt_seq (rt_if (ed_binB0 (ed_bor (i := 0) (by rfl)) (fun x5 => ed_con)) (fun _ _ _ _ => trivial) (fun t8 => (rt_raise (fun _ _ _ _ => trivial))) (fun t8 => (rt_skip (rk_of (rt_seq (rt_asg (i := 1) kdSh (es_sh (ed_ops0 (el_cons0 (ed_fz kdFo (es_lcE2 (vs := [3]) (v := fun (q : List D) => .list q) (ρ' := fun _ => [.sh v0, .em, .em, .em]) (ei_rng10 (ed_bor (i := 0) (by rfl))) (by intros; rfl) (by intros; rfl) (fun l11 d12 => (gt_name (vs := [3]) (i := 3) (by decide) (by rfl))) (fun l11 d12 t13 => (ed_fz kdFo (es_bin0 fo_add ed_con (fun x15 => (ed_ops0 (el_cons0 (ed_bor (i := 3) (by rfl)) (fun x16 => el_nil))))))) (by intros; rfl) (by intros; exact ⟨rfl, rfl⟩))) (fun x24 => el_nil)))) (fun _ _ _ _ => trivial) (by intros; rfl) (fun a28 => (rk_of (rt_seq (rt_asg (i := 2) kdFo (es_ifc (v := fun (q : D) => q) (ρ' := fun _ => [.sh v0, .sh a28, .em, .em]) (ed_binB0 (ed_bor (i := 0) (by rfl)) (fun x29 => ed_con)) (fun t32 => (es_to (v := fun (q : D) => q) (ρ' := fun _ => [.sh v0, .sh a28, .em, .em]) (es_lcE2 (vs := [3]) (v := fun (q : List D) => .list q) (ρ' := fun _ => [.sh v0, .sh a28, .em, .em]) (ei_rng10 (ed_bor (i := 0) (by rfl))) (by intros; rfl) (by intros; rfl) (fun l35 d36 => (gt_name (vs := [3]) (i := 3) (by decide) (by rfl))) (fun l35 d36 t37 => (ed_fz kdFo (es_bin0 fo_add (ed_fz kdFo (es_slc0 fo_cut (ed_bor (i := 1) (by rfl)) (fun x39 => eo_no) (fun x39 x40 => (eo_at0 (ed_bor (i := 3) (by rfl)))))) (fun x45 => (ed_fz kdFo (es_slc0 fo_cut (ed_bor (i := 1) (by rfl)) (fun x46 => (eo_at0 (ed_fz kdFo (es_bin0 fo_add (ed_bor (i := 3) (by rfl)) (fun x47 => ed_con))))) (fun x46 x52 => eo_no))))))) (by intros; rfl) (by intros; exact ⟨rfl, rfl⟩)) (by intros; rfl) (fun x59 => by (first | exact LeE.refl _ | (unfold LeE; (repeat' (first | exact All2.nil | refine All2.cons ?_ ?_)) <;> first | exact trivial | exact rfl | exact Or.inl rfl | exact Or.inr (Or.inl rfl) | exact Or.inr (Or.inr (Or.inl rfl)) | exact Or.inr (Or.inr (Or.inr rfl)) | exact Or.inr ⟨rfl, rfl⟩ | exact Or.inr (Or.inl ⟨rfl, rfl⟩) | exact Or.inr (Or.inr ⟨rfl, rfl⟩)))))) (fun t32 => (es_to (v := fun (q : D) => q) (ρ' := fun _ => [.sh v0, .sh a28, .em, .em]) (es_lst el_nil) (by intros; rfl) (fun x60 => by (first | exact LeE.refl _ | (unfold LeE; (repeat' (first | exact All2.nil | refine All2.cons ?_ ?_)) <;> first | exact trivial | exact rfl | exact Or.inl rfl | exact Or.inr (Or.inl rfl) | exact Or.inr (Or.inr (Or.inl rfl)) | exact Or.inr (Or.inr (Or.inr rfl)) | exact Or.inr ⟨rfl, rfl⟩ | exact Or.inr (Or.inl ⟨rfl, rfl⟩) | exact Or.inr (Or.inr ⟨rfl, rfl⟩))))))) (fun _ _ _ _ => trivial) (by intros; rfl) (fun a61 => (rk_of (rt_ret0 rfl kdSh (es_sh (ed_tup (el_cons0 ed_con (fun x62 => (el_cons0 (ed_tup (el_cons0 (ed_varS (i := 1) (by rfl)) (fun x63 => el_nil))) (fun x65 => (el_cons0 (ed_ops0 (el_cons0 (ed_fz kdFo (es_ops0 fo_sort (el_cons0 (ed_bor (i := 2) (by rfl)) (fun x66 => el_nil)))) (fun x70 => el_nil))) (fun x74 => el_nil)))))))) (fun _ _ _ _ => trivial)))))))))))))))))))))
theorem md_ball (ds : List D) : Fr (m_ball ds) (d_ball ds) := match ds with
    | [v0] => mdb_ball v0
    | [] => trivial
    | _ :: _ :: _ => trivial
def mb_judge_ball (v0 v1 : D) : M (D) :=
  ((((M.ok v1).bind fun x1 => ((((M.ok v0).bind fun x2 => (M.ok []).bind fun x3 => M.ok (x2 :: x3)).bind fun x4 => (m_ball x4).bind fun d5 => M.ok d5).bind fun x6 => (M.ok []).bind fun x7 => M.ok (x6 :: x7)).bind fun x8 => M.ok (x1 :: x8)).bind fun x9 => (m_told_alike x9).bind fun d10 => M.ok d10).bind fun a11 => M.ok a11)
def mc_judge_ball (ds : List D) : M (D) := match ds with
  | [v0, v1] => mb_judge_ball v0 v1
  | _ => .err
def m_judge_ball : List D → M (D) := mc_judge_ball
theorem mdb_judge_ball (v0 v1 : D) : Fr (mb_judge_ball v0 v1) (fnD 2 [] b_judge_ball [v0, v1]) := fr_of (n := 2) (ds := [v0, v1]) (by delta b_judge_ball; exact (rt_ret0 rfl kdVa (es_call0 md_told_alike (el_cons0 (ed_varS (i := 1) (by rfl)) (fun x1 => (el_cons0 (ed_fz kdVa (es_call0 md_ball (el_cons0 (ed_varS (i := 0) (by rfl)) (fun x2 => el_nil)))) (fun x6 => el_nil))))) (fun _ _ _ _ => trivial)))
theorem md_judge_ball (ds : List D) : Fr (m_judge_ball ds) (d_judge_ball ds) := match ds with
    | [v0, v1] => mdb_judge_ball v0 v1
    | [] => trivial
    | [_] => trivial
    | _ :: _ :: _ :: _ => trivial
def mb__law_unfit (v0 : D) : M (D) :=
  ((((M.ok (.bool false)).bind fun x1 => ((M.ok (.bool true)).bind fun x2 => (M.ok []).bind fun x3 => M.ok (x2 :: x3)).bind fun x4 => M.ok (x1 :: x4)).bind fun x5 => (itM (.list x5)).bind fun l6 => M.ok l6).bind fun l7 => (forM (fun (b48 : Unit) d49 => (M.ok ()).bind fun t50 => ((tryM yes_UnfitShape (((M.ok d49).bind fun x51 => (liftO (truD x51)).bind fun d52 => M.ok d52).bind fun t53 => if t53 = true then ((((M.ok v0).bind fun x54 => ((M.ok .none).bind fun x55 => (M.ok []).bind fun x56 => M.ok (x55 :: x56)).bind fun x57 => M.ok (x54 :: x57)).bind fun x58 => (m_judge_ball x58).bind fun d59 => M.ok d59).bind fun a60 => ((M.ok (.bool false)).bind fun a61 => M.ok (.rt a61))) else ((((M.ok v0).bind fun x62 => (M.ok []).bind fun x63 => M.ok (x62 :: x63)).bind fun x64 => (m_ball x64).bind fun d65 => M.ok d65).bind fun a66 => ((M.ok (.bool false)).bind fun a67 => M.ok (.rt a67))))).bind (thenT (M.ok (.nx ())) .rt))) l7 ()).bind (orRet (fun (b68 : Unit) => ((M.ok (.bool true)).bind fun a69 => M.ok a69)) id))
def mc__law_unfit (ds : List D) : M (D) := match ds with
  | [v0] => mb__law_unfit v0
  | _ => .err
def m__law_unfit : List D → M (D) := mc__law_unfit
theorem mdb__law_unfit (v0 : D) : Fr (mb__law_unfit v0) (fnD 3 [] b__law_unfit [v0]) := fr_of (n := 3) (ds := [v0]) (by delta b__law_unfit; exact (rt_seq (rt_for (fun (l7 : List D) (b48 : Unit) => [.sh v0, .em, .em]) (fun (l7 : List D) => ()) (ei_seq0 (ed_fz kdFo (es_lst (el_cons0 ed_con (fun x1 => (el_cons0 ed_con (fun x2 => el_nil))))))) (fun _ _ _ _ => trivial) (fun l7 => by (first | exact LeE.refl _ | (unfold LeE; (repeat' (first | exact All2.nil | refine All2.cons ?_ ?_)) <;> first | exact trivial | exact rfl | exact Or.inl rfl | exact Or.inr (Or.inl rfl) | exact Or.inr (Or.inr (Or.inl rfl)) | exact Or.inr (Or.inr (Or.inr rfl)) | exact Or.inr ⟨rfl, rfl⟩ | exact Or.inr (Or.inl ⟨rfl, rfl⟩) | exact Or.inr (Or.inr ⟨rfl, rfl⟩)))) (by intros; rfl) (fun l7 b48 d49 => rt_gtT (gt_name (vs := [1]) (i := 1) (by decide) (by rfl)) (fun t50 => (rt_try (i := 2) rfl (fun _ => trivial) rfl (rt_seq (rt_if (ed_tru0 (ed_bor (i := 1) (by rfl))) pxT (fun t53 => (rt_drop (ed_fz kdVa (es_call0 md_judge_ball (el_cons0 (ed_varS (i := 0) (by rfl)) (fun x54 => (el_cons0 ed_con (fun x55 => el_nil)))))) pxT (fun a60 => (rk_of (rt_retT (es_sh ed_con)))))) (fun t53 => (rt_drop (ed_fz kdVa (es_call0 md_ball (el_cons0 (ed_varS (i := 0) (by rfl)) (fun x62 => el_nil)))) pxT (fun a66 => (rk_of (rt_retT (es_sh ed_con)))))))) (rk_nx (by (first | exact LeE.refl _ | (unfold LeE; (repeat' (first | exact All2.nil | refine All2.cons ?_ ?_)) <;> first | exact trivial | exact rfl | exact Or.inl rfl | exact Or.inr (Or.inl rfl) | exact Or.inr (Or.inr (Or.inl rfl)) | exact Or.inr (Or.inr (Or.inr rfl)) | exact Or.inr ⟨rfl, rfl⟩ | exact Or.inr (Or.inl ⟨rfl, rfl⟩) | exact Or.inr (Or.inr ⟨rfl, rfl⟩)))))))) (fun l7 b68 => (rk_of (rt_ret0 rfl kdSh (es_sh ed_con) (fun _ _ _ _ => trivial)))))))
theorem md__law_unfit (ds : List D) : Fr (m__law_unfit ds) (d__law_unfit ds) := match ds with
    | [v0] => mdb__law_unfit v0
    | [] => trivial
    | _ :: _ :: _ => trivial
def mb__law_parts (v0 : D) : M (D) :=
  (((M.ok []).bind fun x1 => (M.ok []).bind fun x2 => M.ok ((.tuple x1) :: x2)).bind fun a3 => (((((M.ok v0).bind fun x4 => (M.ok []).bind fun x5 => M.ok (x4 :: x5)).bind fun x6 => (liftS (sortF x6)).bind fun d7 => M.ok d7).bind fun x8 => (itM x8).bind fun l9 => M.ok l9).bind fun l10 => (foldM (fun (b51 : D) d52 => (M.ok ()).bind fun t53 => (((M.ok b51).bind fun x54 => (((M.ok b51).bind fun x55 => (itM x55).bind fun l56 => M.ok l56).bind fun l57 => (lcE (fun d58 => (M.ok ()).bind fun t59 => ((M.ok d58).bind fun x61 => ((M.ok d52).bind fun x62 => (M.ok []).bind fun x63 => M.ok (x62 :: x63)).bind fun x64 => (liftS (addS x61 (.tuple x64))).bind fun d65 => M.ok d65).bind fun y66 => M.ok y66) l57).noX.bind fun r67 => M.ok r67).bind fun x68 => (liftS (addS x54 (.list x68))).bind fun d69 => M.ok d69).bind fun a70 => (M.ok a70))) l10 (.list a3)).bind fun (b71 : D) => ((((M.ok b71).bind fun x72 => (itM x72).bind fun l73 => M.ok l73).bind fun l74 => (lcF (fun d75 => (M.ok ()).bind fun t76 => ((M.ok d75).bind fun x77 => (M.ok []).bind fun x78 => (liftO (neB x77 (.tuple x78))).bind fun d79 => M.ok d79).bind fun c80 => if c80 = true then (M.ok d75).bind fun y81 => M.ok (some y81) else M.ok none) l74).noX.bind fun r82 => M.ok r82).bind fun a83 => M.ok (.list a83))))
def mc__law_parts (ds : List D) : M (D) := match ds with
  | [v0] => mb__law_parts v0
  | _ => .err
def m__law_parts : List D → M (D) := mc__law_parts
theorem mdb__law_parts (v0 : D) : Fr (mb__law_parts v0) (fnD 4 [] b__law_parts [v0]) := fr_of (n := 4) (ds := [v0]) (by delta b__law_parts; exact (rt_seq (rt_asg (i := 1) kdFo (es_lst (el_cons0 (ed_tup el_nil) (fun x1 => el_nil))) (fun _ _ _ _ => trivial) (by intros; rfl) (fun a3 => (rk_of (rt_seq (rt_fold (fun (l10 : List D) (b51 : D) => [.sh v0, .fo b51, .em, .em]) (fun (l10 : List D) => (.list a3)) (ei_seq0 (ed_fz kdFo (es_ops0 fo_sort (el_cons0 (ed_bor (i := 0) (by rfl)) (fun x4 => el_nil))))) (fun _ _ _ _ => trivial) (fun l10 => by (first | exact LeE.refl _ | (unfold LeE; (repeat' (first | exact All2.nil | refine All2.cons ?_ ?_)) <;> first | exact trivial | exact rfl | exact Or.inl rfl | exact Or.inr (Or.inl rfl) | exact Or.inr (Or.inr (Or.inl rfl)) | exact Or.inr (Or.inr (Or.inr rfl)) | exact Or.inr ⟨rfl, rfl⟩ | exact Or.inr (Or.inl ⟨rfl, rfl⟩) | exact Or.inr (Or.inr ⟨rfl, rfl⟩)))) (by intros; rfl) (fun l10 b51 d52 => rt_gtT (gt_name (vs := [2]) (i := 2) (by decide) (by rfl)) (fun t53 => (rt_asg (i := 1) kdFo (es_bin0 fo_add (ed_var (i := 1) (by rfl)) (fun x54 => (ed_fz kdFo (es_lcE2 (vs := [3]) (v := fun (q : List D) => .list q) (ρ' := fun _ => [.sh v0, .sh b51, .sh d52, .em]) (ei_seq0 (ed_varS (i := 1) (by rfl))) (by intros; rfl) (by intros; rfl) (fun l57 d58 => (gt_name (vs := [3]) (i := 3) (by decide) (by rfl))) (fun l57 d58 t59 => (ed_fz kdFo (es_bin0 fo_add (ed_bor (i := 3) (by rfl)) (fun x61 => (ed_tup (el_cons0 (ed_varS (i := 2) (by rfl)) (fun x62 => el_nil))))))) (by intros; rfl) (by intros; exact ⟨rfl, rfl⟩))))) (fun _ _ _ _ => trivial) (by intros; rfl) (fun a70 => (rk_nxN (by (first | exact LeE.refl _ | (unfold LeE; (repeat' (first | exact All2.nil | refine All2.cons ?_ ?_)) <;> first | exact trivial | exact rfl | exact Or.inl rfl | exact Or.inr (Or.inl rfl) | exact Or.inr (Or.inr (Or.inl rfl)) | exact Or.inr (Or.inr (Or.inr rfl)) | exact Or.inr ⟨rfl, rfl⟩ | exact Or.inr (Or.inl ⟨rfl, rfl⟩) | exact Or.inr (Or.inr ⟨rfl, rfl⟩))))))))) (fun l10 b71 => (rk_of (rt_ret0 rfl kdFo (es_lcF2 (vs := [3]) (v := fun (q : List D) => .list q) (ρ' := fun _ => [.sh v0, .sh b71, .em, .em]) (ei_seq0 (ed_var (i := 1) (by rfl))) (by intros; rfl) (by intros; rfl) (fun l74 d75 => (gt_name (vs := [3]) (i := 3) (by decide) (by rfl))) (fun l74 d75 t76 => (ed_binB0 (ed_bor (i := 3) (by rfl)) (fun x77 => (ed_tup el_nil)))) (fun l74 d75 t76 c80 => (ed_varS (i := 3) (by rfl))) (by intros; rfl) (by intros; rfl) (by intros; exact ⟨rfl, rfl⟩)) (fun _ _ _ _ => trivial)))))))))))
theorem md__law_parts (ds : List D) : Fr (m__law_parts ds) (d__law_parts ds) := match ds with
    | [v0] => mdb__law_parts v0
    | [] => trivial
    | _ :: _ :: _ => trivial
def mb__law_accepts (v0 v1 : D) : M (D) :=
  ((((((M.ok v0).bind fun x1 => (rng1 x1).bind fun l2 => M.ok l2).bind fun l3 => (lcE (fun d4 => (M.ok ()).bind fun t5 => ((M.ok (.str "n")).bind fun x7 => (((M.ok d4).bind fun x8 => (M.ok []).bind fun x9 => M.ok (x8 :: x9)).bind fun x10 => (liftO (strD x10)).bind fun d11 => M.ok d11).bind fun x12 => (liftS (addS x7 x12)).bind fun d13 => M.ok d13).bind fun y14 => M.ok y14) l3).noX.bind fun r15 => M.ok r15).bind fun x16 => (M.ok []).bind fun x17 => M.ok ((.list x16) :: x17)).bind fun x18 => (liftO (tupX x18)).bind fun d19 => M.ok d19).bind fun a20 => ((((((M.ok a20).bind fun x21 => (M.ok []).bind fun x22 => M.ok (x21 :: x22)).bind fun x23 => (m__law_parts x23).bind fun d24 => M.ok d24).bind fun x25 => (itM x25).bind fun l26 => M.ok l26).bind fun l27 => (lcF (fun d28 => (M.ok ()).bind fun t29 => ((((M.ok d28).bind fun x30 => (M.ok []).bind fun x31 => M.ok (x30 :: x31)).bind fun x32 => (liftO (lenD x32)).bind fun d33 => M.ok d33).bind fun x34 => ((M.ok v0).bind fun x35 => (M.ok (.int 1)).bind fun x36 => (liftO (subD x35 x36)).bind fun d37 => M.ok d37).bind fun x38 => (liftO (eqB x34 x38)).bind fun d39 => M.ok d39).bind fun c40 => if c40 = true then (M.ok d28).bind fun y41 => M.ok (some y41) else M.ok none) l27).noX.bind fun r42 => M.ok r42).bind fun a43 => ((((M.ok v1).bind fun x44 => (((M.ok (.str "shape")).bind fun x45 => (((M.ok a20).bind fun x46 => (M.ok []).bind fun x47 => M.ok (x46 :: x47)).bind fun x48 => ((((((M.ok (.list a43)).bind fun x49 => (M.ok []).bind fun x50 => M.ok (x49 :: x50)).bind fun x51 => (liftS (sortF x51)).bind fun d52 => M.ok d52).bind fun x53 => (M.ok []).bind fun x54 => M.ok (x53 :: x54)).bind fun x55 => (liftO (tupX x55)).bind fun d56 => M.ok d56).bind fun x57 => (M.ok []).bind fun x58 => M.ok (x57 :: x58)).bind fun x59 => M.ok ((.tuple x48) :: x59)).bind fun x60 => M.ok (x45 :: x60)).bind fun x61 => (M.ok []).bind fun x62 => M.ok ((.tuple x61) :: x62)).bind fun x63 => M.ok (x44 :: x63)).bind fun x64 => ((m__law_same 40) x64).bind fun d65 => M.ok d65).bind fun a66 => M.ok a66)))
def mc__law_accepts (ds : List D) : M (D) := match ds with
  | [v0, v1] => mb__law_accepts v0 v1
  | _ => .err
def m__law_accepts : List D → M (D) := mc__law_accepts
theorem mdb__law_accepts (v0 v1 : D) : Fr (mb__law_accepts v0 v1) (fnD 6 [] b__law_accepts [v0, v1]) := fr_of (n := 6) (ds := [v0, v1]) (by delta b__law_accepts; exact (rt_seq (rt_asg (i := 2) kdSh (es_sh (ed_ops0 (el_cons0 (ed_fz kdFo (es_lcE2 (vs := [5]) (v := fun (q : List D) => .list q) (ρ' := fun _ => [.sh v0, .sh v1, .em, .em, .em, .em]) (ei_rng10 (ed_bor (i := 0) (by rfl))) (by intros; rfl) (by intros; rfl) (fun l3 d4 => (gt_name (vs := [5]) (i := 5) (by decide) (by rfl))) (fun l3 d4 t5 => (ed_fz kdFo (es_bin0 fo_add ed_con (fun x7 => (ed_ops0 (el_cons0 (ed_bor (i := 5) (by rfl)) (fun x8 => el_nil))))))) (by intros; rfl) (by intros; exact ⟨rfl, rfl⟩))) (fun x16 => el_nil)))) (fun _ _ _ _ => trivial) (by intros; rfl) (fun a20 => (rk_of (rt_seq (rt_asg (i := 3) kdFo (es_lcF2 (vs := [4]) (v := fun (q : List D) => .list q) (ρ' := fun _ => [.sh v0, .sh v1, .sh a20, .em, .em, .em]) (ei_seq0 (ed_fz kdVa (es_call0 md__law_parts (el_cons0 (ed_varS (i := 2) (by rfl)) (fun x21 => el_nil))))) (by intros; rfl) (by intros; rfl) (fun l27 d28 => (gt_name (vs := [4]) (i := 4) (by decide) (by rfl))) (fun l27 d28 t29 => (ed_binB0 (ed_ops0 (el_cons0 (ed_bor (i := 4) (by rfl)) (fun x30 => el_nil))) (fun x34 => (ed_bin0 (ed_bor (i := 0) (by rfl)) (fun x35 => ed_con))))) (fun l27 d28 t29 c40 => (ed_varS (i := 4) (by rfl))) (by intros; rfl) (by intros; rfl) (by intros; exact ⟨rfl, rfl⟩)) (fun _ _ _ _ => trivial) (by intros; rfl) (fun a43 => (rk_of (rt_ret0 rfl kdVa (es_call0 (md__law_same 40) (el_cons0 (ed_varS (i := 1) (by rfl)) (fun x44 => (el_cons0 (ed_tup (el_cons0 ed_con (fun x45 => (el_cons0 (ed_tup (el_cons0 (ed_varS (i := 2) (by rfl)) (fun x46 => el_nil))) (fun x48 => (el_cons0 (ed_ops0 (el_cons0 (ed_fz kdFo (es_ops0 fo_sort (el_cons0 (ed_bor (i := 3) (by rfl)) (fun x49 => el_nil)))) (fun x53 => el_nil))) (fun x57 => el_nil))))))) (fun x61 => el_nil))))) (fun _ _ _ _ => trivial)))))))))))
theorem md__law_accepts (ds : List D) : Fr (m__law_accepts ds) (d__law_accepts ds) := match ds with
    | [v0, v1] => mdb__law_accepts v0 v1
    | [] => trivial
    | [_] => trivial
    | _ :: _ :: _ :: _ => trivial
def mb_law (v0 : D) : M (D) :=
  (((((M.ok v0).bind fun x1 => (M.ok []).bind fun x2 => M.ok (x1 :: x2)).bind fun x3 => (liftS (listF x3)).bind fun d4 => M.ok d4).bind fun x5 => ((M.ok (.int 0)).bind fun x6 => ((M.ok (.int 0)).bind fun x7 => ((M.ok (.int 1)).bind fun x8 => (M.ok []).bind fun x9 => M.ok (x8 :: x9)).bind fun x10 => M.ok (x7 :: x10)).bind fun x11 => M.ok (x6 :: x11)).bind fun x12 => M.ok (x5 :: x12)).bind fun a13 => ((M.ok []).bind fun a14 => (((M.ok (.int 3)).bind fun x15 => (rng1 x15).bind fun l16 => M.ok l16).bind fun l17 => (forM (fun (b410 : D × D) d411 => (M.ok ()).bind fun t412 => (((M.ok (.int 1)).bind fun x413 => (((M.ok (.int 6)).bind fun x414 => (M.ok []).bind fun x415 => M.ok (x414 :: x415)).bind fun x416 => (m__law_next (b410.1 :: x416)).bind fun r417 => M.ok r417).bind fun x418 => (liftS (addS x413 x418.1)).bind fun d419 => M.ok (d419, x418.2)).bind fun a420 => ((((M.ok a420.1).bind fun x421 => (M.ok []).bind fun x422 => M.ok (x421 :: x422)).bind fun x423 => (m_ball x423).bind fun d424 => M.ok d424).bind fun a425 => ((((((M.ok a420.1).bind fun x426 => ((M.ok a425).bind fun x427 => (M.ok []).bind fun x428 => M.ok (x427 :: x428)).bind fun x429 => M.ok (x426 :: x429)).bind fun x430 => (m__law_accepts x430).bind fun d431 => M.ok d431).bind fun x432 => (liftO (truD x432)).bind fun d433 => M.ok d433).bind fun x434 => if (!x434) = true then M.ok true else ((((M.ok a420.1).bind fun x435 => ((M.ok a425).bind fun x436 => (M.ok []).bind fun x437 => M.ok (x436 :: x437)).bind fun x438 => M.ok (x435 :: x438)).bind fun x439 => (m_judge_ball x439).bind fun d440 => M.ok d440).bind fun x441 => (M.ok (.bool true)).bind fun x442 => (liftO (noBB x441 x442)).bind fun d443 => M.ok d443)).bind fun t445 => if t445 = true then ((M.ok (.bool false)).bind fun a446 => M.ok (.rt a446)) else (((((M.ok (.int 0)).bind fun x447 => (M.ok []).bind fun x448 => M.ok (x447 :: x448)).bind fun x449 => (m__law_unfit x449).bind fun d450 => M.ok d450).bind fun x451 => (liftO (truD x451)).bind fun d452 => M.ok d452).bind fun t453 => if (!t453) = true then ((M.ok (.bool false)).bind fun a454 => M.ok (.rt a454)) else ((((M.ok b410.2).bind fun x455 => (((M.ok (.int 3)).bind fun x456 => (liftO (negD x456)).bind fun d457 => M.ok d457).bind fun x458 => (intM x458).bind fun i459 => M.ok i459).bind fun x460 => (M.ok ()).bind fun x461 => (liftS (cutF x455 (some x460) none)).bind fun d462 => M.ok d462).bind fun x463 => ((M.ok a425).bind fun x464 => (M.ok []).bind fun x465 => M.ok (x464 :: x465)).bind fun x466 => (liftS (addS x463 (.list x466))).bind fun d467 => M.ok d467).bind fun a468 => ((((M.ok (.int 8)).bind fun x469 => (((M.ok a468).bind fun x470 => (M.ok []).bind fun x471 => M.ok (x470 :: x471)).bind fun x472 => (liftO (lenD x472)).bind fun d473 => M.ok d473).bind fun x474 => (liftS (addS x469 x474)).bind fun d475 => M.ok d475).bind fun x476 => (rng1 x476).bind fun l477 => M.ok l477).bind fun l478 => (forM (fun (b563 : D) d564 => (M.ok ()).bind fun t565 => ((((M.ok d564).bind fun x566 => (M.ok (.int 8)).bind fun x567 => (liftO (ltB x566 x567)).bind fun d568 => M.ok d568).bind fun t569 => if t569 = true then ((((M.ok a425).bind fun x570 => (M.ok []).bind fun x571 => M.ok (x570 :: x571)).bind fun x572 => (m__law_odd (b563 :: x572)).bind fun r573 => M.ok r573).bind fun x580 => M.ok (x580.1, x580.2)) else (((M.ok a468).bind fun x574 => ((M.ok d564).bind fun x575 => (M.ok (.int 8)).bind fun x576 => (liftO (subD x575 x576)).bind fun d577 => M.ok d577).bind fun x578 => (liftO (ixD x574 x578)).bind fun d579 => M.ok d579).bind fun x581 => M.ok (x581, b563))).bind fun a582 => (((((((M.ok a420.1).bind fun x583 => ((M.ok a582.1).bind fun x584 => (M.ok []).bind fun x585 => M.ok (x584 :: x585)).bind fun x586 => M.ok (x583 :: x586)).bind fun x587 => (m_judge_ball x587).bind fun d588 => M.ok d588).bind fun x589 => ((((M.ok a420.1).bind fun x590 => ((M.ok a582.1).bind fun x591 => (M.ok []).bind fun x592 => M.ok (x591 :: x592)).bind fun x593 => M.ok (x590 :: x593)).bind fun x594 => (m__law_accepts x594).bind fun d595 => M.ok d595).bind fun x596 => (M.ok []).bind fun x597 => M.ok (x596 :: x597)).bind fun x598 => M.ok (x589 :: x598)).bind fun x599 => ((m__law_same 40) x599).bind fun d600 => M.ok d600).bind fun x601 => (liftO (truD x601)).bind fun d602 => M.ok d602).bind fun t603 => if (!t603) = true then ((M.ok (.bool false)).bind fun a604 => M.ok (.rt a604)) else (M.ok (.nx a582.2))))) l478 a420.2).bind (orRet (fun (b605 : D) => (M.ok (.nx (b605, a468)))) .rt)))))))) l17 ((.list a13), (.list a14))).bind (orRet (fun (b606 : D × D) => ((M.ok (.bool true)).bind fun a607 => M.ok a607)) id))))
def mc_law (ds : List D) : M (D) := match ds with
  | [v0] => mb_law v0
  | _ => .err
def m_law : List D → M (D) := mc_law
theorem mdb_law (v0 : D) : Fr (mb_law v0) (fnD 8 [] b_law [v0]) := fr_of (n := 8) (ds := [v0]) (by delta b_law; exact (rt_seq (rt_asg (i := 1) kdFo (es_lst (el_cons0 (ed_fz kdFo (es_ops0 fo_listF (el_cons0 (ed_bor (i := 0) (by rfl)) (fun x1 => el_nil)))) (fun x5 => (el_cons0 ed_con (fun x6 => (el_cons0 ed_con (fun x7 => (el_cons0 ed_con (fun x8 => el_nil))))))))) (fun _ _ _ _ => trivial) (by intros; rfl) (fun a13 => (rk_of (rt_seq (rt_asg (i := 2) kdFo (es_lst el_nil) (fun _ _ _ _ => trivial) (by intros; rfl) (fun a14 => (rk_of (rt_seq (rt_for (fun (l17 : List D) (b410 : D × D) => [.sh v0, .ow b410.1, .fo b410.2, .em, .em, .em, .em, .em]) (fun (l17 : List D) => ((.list a13), (.list a14))) (ei_rng10 ed_con) (fun _ _ _ _ => trivial) (fun l17 => by (first | exact LeE.refl _ | (unfold LeE; (repeat' (first | exact All2.nil | refine All2.cons ?_ ?_)) <;> first | exact trivial | exact rfl | exact Or.inl rfl | exact Or.inr (Or.inl rfl) | exact Or.inr (Or.inr (Or.inl rfl)) | exact Or.inr (Or.inr (Or.inr rfl)) | exact Or.inr ⟨rfl, rfl⟩ | exact Or.inr (Or.inl ⟨rfl, rfl⟩) | exact Or.inr (Or.inr ⟨rfl, rfl⟩)))) (by intros; rfl) (fun l17 b410 d411 => rt_gtT (gt_name (vs := [3]) (i := 3) (by decide) (by rfl)) (fun t412 => (rt_seq (rt_asg (i := 4) kdFo (es_bin (v := fun (q : D × D) => q.1) (ρ' := fun (q : D × D) => [.sh v0, .ow q.2, .fo b410.2, .sh d411, .em, .em, .em, .em]) fo_add ed_con (fun x413 => (ed_fz kdVa (es_callR (i := 1) (w := fun (x416 : List D) => b410.1) (v := fun (q : D × D) => q.1) (ρ' := fun (q : D × D) => [.sh v0, .ow q.2, .fo b410.2, .sh d411, .em, .em, .em, .em]) md__law_next (by rfl) (el_cons0 ed_con (fun x414 => el_nil)) (by intros; rfl) (by intros; exact ⟨rfl, rfl⟩)))) (by intros; exact ⟨rfl, rfl⟩)) (fun _ _ _ _ => trivial) (by intros; rfl) (fun a420 => (rk_of (rt_seq (rt_asg (i := 5) kdVa (es_call0 md_ball (el_cons0 (ed_var (i := 4) (by rfl)) (fun x421 => el_nil))) (fun _ _ _ _ => trivial) (by intros; rfl) (fun a425 => (rk_of (rt_seq (rt_if (ed_orL (v := fun (q : Bool) => q) (ρ' := fun _ => [.sh v0, .ow a420.2, .fo b410.2, .sh d411, .sh a420.1, .sh a425, .em, .em]) (ed_not (ed_tru0 (ed_fz kdVa (es_call0 md__law_accepts (el_cons0 (ed_varS (i := 4) (by rfl)) (fun x426 => (el_cons0 (ed_var (i := 5) (by rfl)) (fun x427 => el_nil)))))))) (fun x434 => (ed_binB0 (ed_fz kdVa (es_call0 md_judge_ball (el_cons0 (ed_varS (i := 4) (by rfl)) (fun x435 => (el_cons0 (ed_varS (i := 5) (by rfl)) (fun x436 => el_nil)))))) (fun x441 => ed_con))) (by intros; rfl) (fun x434 => by (first | exact LeE.refl _ | (unfold LeE; (repeat' (first | exact All2.nil | refine All2.cons ?_ ?_)) <;> first | exact trivial | exact rfl | exact Or.inl rfl | exact Or.inr (Or.inl rfl) | exact Or.inr (Or.inr (Or.inl rfl)) | exact Or.inr (Or.inr (Or.inr rfl)) | exact Or.inr ⟨rfl, rfl⟩ | exact Or.inr (Or.inl ⟨rfl, rfl⟩) | exact Or.inr (Or.inr ⟨rfl, rfl⟩))))) (fun _ _ _ _ => trivial) (fun t445 => (rt_ret0 rfl kdSh (es_sh ed_con) (fun _ _ _ _ => trivial))) (fun t445 => (rt_skip (rk_of (rt_seq (rt_if (ed_not (ed_tru0 (ed_fz kdVa (es_call0 md__law_unfit (el_cons0 ed_con (fun x447 => el_nil)))))) (fun _ _ _ _ => trivial) (fun t453 => (rt_ret0 rfl kdSh (es_sh ed_con) (fun _ _ _ _ => trivial))) (fun t453 => (rt_skip (rk_of (rt_seq (rt_asg (i := 2) kdFo (es_bin0 fo_add (ed_fz kdFo (es_slc0 fo_cut (ed_bor (i := 2) (by rfl)) (fun x455 => (eo_at0 (ed_un0 ed_con))) (fun x455 x460 => eo_no))) (fun x463 => (ed_fz kdFo (es_lst (el_cons0 (ed_varS (i := 5) (by rfl)) (fun x464 => el_nil)))))) (fun _ _ _ _ => trivial) (by intros; rfl) (fun a468 => (rk_of (rt_for (fun (l478 : List D) (b563 : D) => [.sh v0, .ow b563, .fo a468, .sh d411, .sh a420.1, .sh a425, .em, .em]) (fun (l478 : List D) => a420.2) (ei_rng10 (ed_fz kdFo (es_bin0 fo_add ed_con (fun x469 => (ed_ops0 (el_cons0 (ed_bor (i := 2) (by rfl)) (fun x470 => el_nil))))))) (fun _ _ _ _ => trivial) (fun l478 => by (first | exact LeE.refl _ | (unfold LeE; (repeat' (first | exact All2.nil | refine All2.cons ?_ ?_)) <;> first | exact trivial | exact rfl | exact Or.inl rfl | exact Or.inr (Or.inl rfl) | exact Or.inr (Or.inr (Or.inl rfl)) | exact Or.inr (Or.inr (Or.inr rfl)) | exact Or.inr ⟨rfl, rfl⟩ | exact Or.inr (Or.inl ⟨rfl, rfl⟩) | exact Or.inr (Or.inr ⟨rfl, rfl⟩)))) (by intros; rfl) (fun l478 b563 d564 => rt_gtT (gt_name (vs := [6]) (i := 6) (by decide) (by rfl)) (fun t565 => (rt_seq (rt_asg (i := 7) kdVa (es_ifc (v := fun (q : D × D) => q.1) (ρ' := fun (q : D × D) => [.sh v0, .ow q.2, .fo a468, .sh d411, .sh a420.1, .sh a425, .sh d564, .em]) (ed_binB0 (ed_bor (i := 6) (by rfl)) (fun x566 => ed_con)) (fun t569 => (es_to (v := fun (q : D × D) => q.1) (ρ' := fun (q : D × D) => [.sh v0, .ow q.2, .fo a468, .sh d411, .sh a420.1, .sh a425, .sh d564, .em]) (es_callR (i := 1) (w := fun (x572 : List D) => b563) (v := fun (q : D × D) => q.1) (ρ' := fun (q : D × D) => [.sh v0, .ow q.2, .fo a468, .sh d411, .sh a420.1, .sh a425, .sh d564, .em]) md__law_odd (by rfl) (el_cons0 (ed_varS (i := 5) (by rfl)) (fun x570 => el_nil)) (by intros; rfl) (by intros; exact ⟨rfl, rfl⟩)) (by intros; rfl) (fun x580 => by (first | exact LeE.refl _ | (unfold LeE; (repeat' (first | exact All2.nil | refine All2.cons ?_ ?_)) <;> first | exact trivial | exact rfl | exact Or.inl rfl | exact Or.inr (Or.inl rfl) | exact Or.inr (Or.inr (Or.inl rfl)) | exact Or.inr (Or.inr (Or.inr rfl)) | exact Or.inr ⟨rfl, rfl⟩ | exact Or.inr (Or.inl ⟨rfl, rfl⟩) | exact Or.inr (Or.inr ⟨rfl, rfl⟩)))))) (fun t569 => (es_to (v := fun (q : D × D) => q.1) (ρ' := fun (q : D × D) => [.sh v0, .ow q.2, .fo a468, .sh d411, .sh a420.1, .sh a425, .sh d564, .em]) (es_va kdSh (es_sh (ed_bin0 (ed_bor (i := 2) (by rfl)) (fun x574 => (ed_bin0 (ed_bor (i := 6) (by rfl)) (fun x575 => ed_con)))))) (by intros; rfl) (fun x581 => by (first | exact LeE.refl _ | (unfold LeE; (repeat' (first | exact All2.nil | refine All2.cons ?_ ?_)) <;> first | exact trivial | exact rfl | exact Or.inl rfl | exact Or.inr (Or.inl rfl) | exact Or.inr (Or.inr (Or.inl rfl)) | exact Or.inr (Or.inr (Or.inr rfl)) | exact Or.inr ⟨rfl, rfl⟩ | exact Or.inr (Or.inl ⟨rfl, rfl⟩) | exact Or.inr (Or.inr ⟨rfl, rfl⟩))))))) (fun _ _ _ _ => trivial) (by intros; rfl) (fun a582 => (rk_of (rt_if (ed_not (ed_tru0 (ed_fz kdVa (es_call0 (md__law_same 40) (el_cons0 (ed_fz kdVa (es_call0 md_judge_ball (el_cons0 (ed_varS (i := 4) (by rfl)) (fun x583 => (el_cons0 (ed_var (i := 7) (by rfl)) (fun x584 => el_nil)))))) (fun x589 => (el_cons0 (ed_fz kdVa (es_call0 md__law_accepts (el_cons0 (ed_varS (i := 4) (by rfl)) (fun x590 => (el_cons0 (ed_varS (i := 7) (by rfl)) (fun x591 => el_nil)))))) (fun x596 => el_nil)))))))) (fun _ _ _ _ => trivial) (fun t603 => (rt_ret0 rfl kdSh (es_sh ed_con) (fun _ _ _ _ => trivial))) (fun t603 => (rt_skip (rk_nx (by (first | exact LeE.refl _ | (unfold LeE; (repeat' (first | exact All2.nil | refine All2.cons ?_ ?_)) <;> first | exact trivial | exact rfl | exact Or.inl rfl | exact Or.inr (Or.inl rfl) | exact Or.inr (Or.inr (Or.inl rfl)) | exact Or.inr (Or.inr (Or.inr rfl)) | exact Or.inr ⟨rfl, rfl⟩ | exact Or.inr (Or.inl ⟨rfl, rfl⟩) | exact Or.inr (Or.inr ⟨rfl, rfl⟩)))))))))))))) (fun l478 b605 => (rk_nx (by (first | exact LeE.refl _ | (unfold LeE; (repeat' (first | exact All2.nil | refine All2.cons ?_ ?_)) <;> first | exact trivial | exact rfl | exact Or.inl rfl | exact Or.inr (Or.inl rfl) | exact Or.inr (Or.inr (Or.inl rfl)) | exact Or.inr (Or.inr (Or.inr rfl)) | exact Or.inr ⟨rfl, rfl⟩ | exact Or.inr (Or.inl ⟨rfl, rfl⟩) | exact Or.inr (Or.inr ⟨rfl, rfl⟩))))))))))))))))))))))))))))))) (fun l17 b606 => (rk_of (rt_ret0 rfl kdSh (es_sh ed_con) (fun _ _ _ _ => trivial)))))))))))))))
theorem md_law (ds : List D) : Fr (m_law ds) (d_law ds) := match ds with
    | [v0] => mdb_law v0
    | [] => trivial
    | _ :: _ :: _ => trivial
set_option Elab.async false
set_option linter.all false
set_option maxRecDepth 100000
set_option maxHeartbeats 0
open PySem L2
def nmK (k : Nat) : D := .str ("n" ++ Str.ofString (toString (k : Int)))
def face71 (n : Nat) : List D := (List.range n).map nmK
def walls71 (n : Nat) : List D := if n ≤ 1 then [] else ((List.range n).map fun k => .tuple ((face71 n).eraseIdx k)).reverse
def B71 (n : Nat) : D := .tuple [.str "shape", .tuple [.tuple (face71 n)], .tuple (walls71 n)]
theorem six {n : Int} (h : 1 ≤ n ∧ n ≤ 6) : n = 1 ∨ n = 2 ∨ n = 3 ∨ n = 4 ∨ n = 5 ∨ n = 6 := by omega
theorem ball_ok {n : Int} (h : 1 ≤ n ∧ n ≤ 6) : m_ball [.int n] = .ok (B71 n.toNat) := by
  show mb_ball (.int n) = _
  unfold mb_ball
  rw [sortF_eq]
  rcases six h with rfl | rfl | rfl | rfl | rfl | rfl <;> exact eqM_ok (by decide +kernel)
def due71 (n : Int) : M D := (rng1 (.int n)).bind fun a =>
      (lcE (fun d4 => (liftO (strD [d4])).bind fun x12 => (liftS (addS (PyData.str (Str.ofString "n")) x12)).bind fun d11 => M.ok d11) a).noX.bind fun a =>
        (m__law_parts [PyData.tuple a]).bind fun a_1 =>
          (itM a_1).bind fun a_2 =>
            (lcF (fun d28 => (liftO (lenD [d28])).bind fun a => (liftO (eqB a (PyData.int (n - 1)))).bind fun c40 => if c40 = true then M.ok (some d28) else M.ok none) a_2).noX.bind
              fun a43 => (liftS (sortF [.list a43])).bind fun a_3 => (liftO (tupX [a_3])).bind fun a_4 =>
                  M.ok (PyData.tuple [PyData.str (Str.ofString "shape"), PyData.tuple [PyData.tuple a], a_4])
theorem due_ok {n : Int} (h : 1 ≤ n ∧ n ≤ 6) : due71 n = .ok (B71 n.toNat) := by
  have hp : m__law_parts = mc__law_parts := rfl
  unfold due71
  rw [sortF_eq, hp]
  unfold mc__law_parts
  unfold mb__law_parts
  rw [sortF_eq]
  rcases six h with rfl | rfl | rfl | rfl | rfl | rfl <;> exact eqM_ok (by decide +kernel)
theorem acc_form (n : Int) (x : D) : m__law_accepts [.int n, x] = (due71 n).bind fun e => m__law_same 40 [x, e] := by
  show mb__law_accepts (.int n) x = _
  unfold mb__law_accepts due71
  simp_arith [M.bind_ok]
theorem due_due {n : Int} (h : 1 ≤ n ∧ n ≤ 6) : Due 60 600 4 (B71 n.toNat) := by
  have k : ∀ n : Nat, (okq 60 (B71 n) && decide ((B71 n).depth ≤ 4) && decide (wt 64 (B71 n) ≤ 600) && plN (B71 n)) = true → Due 60 600 4 (B71 n) := fun n h => by
    simp only [Bool.and_eq_true, decide_eq_true_eq] at h
    exact ⟨⟨h.1.1.1, h.1.1.2, h.1.2⟩, h.2⟩
  rcases six h with rfl | rfl | rfl | rfl | rfl | rfl <;> exact k _ (by decide +kernel)
theorem acc_ok {n : Int} (h : 1 ≤ n ∧ n ≤ 6) {x : D} (hx : Gd x) : m__law_accepts [.int n, x] = .ok (.bool (sameD x (B71 n.toNat))) := by
  have d := due_due h
  rw [acc_form, due_ok h, M.ok_bind]
  exact same_ok hx d.tq (plN_Pl d.pl) (by omega) (by omega) (by omega) (by omega)
theorem judge_ok {n : Int} (h : 1 ≤ n ∧ n ≤ 6) {x : D} (hx : Gd x) : m_judge_ball [.int n, x] = .ok (.bool (sameD x (B71 n.toNat))) := by
  show mb_judge_ball (.int n) x = _
  unfold mb_judge_ball
  simp_arith [ball_ok h]
  have e : m_told_alike [x, B71 n.toNat] = _ := told_alike_ok hx (due_due h) (by omega) (by omega) (by omega) (by omega) (by omega) (by omega)
  rw [e]
  rfl
theorem unfit_ok : m__law_unfit [.int 0] = .ok (.bool true) := eqM_ok (by decide +kernel)
theorem law_ok (ns : List Int) : Sat (m_law [.list (ns.map .int)]) (· = .bool true) := by
  show Sat (mb_law (.list (ns.map .int))) _
  unfold mb_law
  have r3 : rngOk 0 3 = true := by decide +kernel
  simp_arith [r3]
  refine turns_sat fun st seen d hb => ?_
  obtain ⟨k, s1, e1, h1, h2, hs1⟩ := next_m hb.1 (m := 6) (by decide) (by decide)
  have h : 1 ≤ 1 + k ∧ 1 + k ≤ 6 := by omega
  have dd := due_due h
  have gd : Gd (B71 (1 + k).toNat) := told_gd (n := 3) dd.tq (by omega) (by omega)
  simp_arith [e1, ball_ok h, acc_ok h gd, judge_ok h gd, sameD_self, unfit_ok]
  exact tail_sat (jm := fun x => m_judge_ball [.int (1 + k), x]) (am := fun x => m__law_accepts [.int (1 + k), x]) (fun x hx => judge_ok h hx) (fun x hx => acc_ok h hx) (n := 3) (w := 600) (by omega) (by omega) (by simp) dd.tq ⟨hs1, hb.2⟩
set_option Elab.async false
set_option linter.all false
set_option maxRecDepth 100000
set_option maxHeartbeats 0
open PySem L2
theorem plain_law (ns : List Int) (hl : ns.length ≤ 63) : ∃ s, d_law [.list (ns.map .int)] = .ok s [] ∧ VS s (.bool true) := plain_of (md_law _) (law_ok ns)
end Z
open PySem PySem.W PySem.Calls PyProof.Rows
theorem PySem.Challenge.cw_shapewhole_k71_balls_and_spheres_holds : PySem.Challenge.rw_shapewhole_k71_balls_and_spheres.Holds := by
  w_on; o_law
  refine HandSHeadRun.head_any (r := OpenLaw.row PySem.Challenge.rw_shapewhole_k71_balls_and_spheres) (q := view (OpenLaw.row PySem.Challenge.rw_shapewhole_k71_balls_and_spheres).prog [20]) (H := Z.hk) (ob := Z.hob) (M := 4000) (loose := Z.hloose) (d := HandSHeadRun.topDef (OpenLaw.row PySem.Challenge.rw_shapewhole_k71_balls_and_spheres).prog 20) (kwd := []) Z.hob_eq
    (by kernel_rfl) (fun s => by kernel_rfl) Z.hrun (by kernel_rfl) (by kernel_rfl) (by kernel_rfl) (by rfl) (by first | assumption | decide +kernel) (by decide +kernel) ⟨rfl, rfl, rfl, rfl, rfl, by decide +kernel⟩ ?hw ?hc
  case hw => w_witness2
  case hc =>
    refine Z.walkG (l := PySem.Challenge.rw_shapewhole_k71_balls_and_spheres) (n := 63) (k := 44) (x := "script") rfl (by decide) (by kernel_rfl) ⟨rfl, by decide, by decide⟩ ?F
    intro w mg fa h Y G hmg0
    obtain ⟨K, KX, c, nl, cx⟩ := Y
    have hmg : mg ("law" : PySem.Str) = some (.ref fa) := by
      have e : (HandSHeadRun.topDef (OpenLaw.row PySem.Challenge.rw_shapewhole_k71_balls_and_spheres).prog 20).name = ("law" : PySem.Str) := by kernel_rfl
      rw [← e]
      exact hmg0
    obtain ⟨fd, F⟩ := c.def_ 14
    have e := hmg.symm.trans (He.glo_ok KX G (c.fact 14 (f := .glo "law") rfl))
    cases e
    have b := L2.FunD.bindsA (ps := ["script"]) F fun _ _ _ _ _ _ us hl => match us, hl with | [_], _ => rfl
    exact ⟨K, fd, Z.spD (Z.clsZ K) 1 [] Z.d_law, KX, nl, fun s v => b s [v] rfl, fun H a ns hl rd => Z.law_spV (K := K) rd (Z.plain_law ns hl), fun base _ _ => Z.ok_law (P := (PySem.Challenge.rw_shapewhole_k71_balls_and_spheres).prog) (w := w) (Z.hfx KX G c cx) F⟩
