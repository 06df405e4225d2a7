import PyProof.Rows.All
import Wide.All
import OpenK.AllK
import Wide.FinOn
import HandS.ForMost
import HandS.ForExc
import HandS.Flow
import HandS.TupAny
import HandS.Deep
import HandS.Wide
import HandS.IsInst
import HandS.Defaults
import HandS.ExcOwn
import HandS.TryOnly
import HandS.Conv
import HandS.Style
import HandS.RaiseMore
import HandS.Text
import PyProof.CallStr
import HandS.TupLe
import PyProof.TupleOfStr
import HandS.Words
import HandS.Dict
import HandS.Ends
import HandS.HeadEnd
import HandS.Head0
import HandS.Head1
import HandS.Head2
import HandS.HeadHook1
import HandS.HeadHook2
import HandS.HeadHook4
import PySem.Challenge.RW_shapewhole_k49_least_words
set_option Elab.async false
set_option linter.all false
set_option maxRecDepth 100000
set_option maxHeartbeats 0
namespace Z
open PySem L2

/-! ### values, slots, answers -/
abbrev D := PyData
/-- a slot: nothing known, a value that never changes any more, an own list or dict, a list of the caller's that may be changed -/
inductive Sl where
  | no | sh (d : D) | ow (d : D) | rf (d : D)
abbrev Gam := List Sl
inductive R where
  | nx (g : Gam) | va (s : Sl) (g : Gam) | ret (s : Sl) (g : Gam) | brk (g : Gam) | ct (g : Gam) | exc (c : Nat) (g : Gam) | err

def keyD : Key → D
  | .inl i => .int i
  | .inr x => .str x
def tkD (ks : List Key) : D := .tuple (ks.map keyD)

/-- a dict at a: its keys as data, its values -/
def DcAt (H : Hp) (a : Addr) (ks : List D) (xs : List V) : Prop :=
  (∃ es : List (Key × V), Rd H a (.dK es) ∧ es.map (·.2) = xs ∧ ks = es.map fun e => keyD e.1) ∨
  (∃ es : List (List Key × V), H a = some (.dT es) ∧ es.map (·.2) = xs ∧ ks = es.map fun e => tkD e.1)
/-- an own dict -/
def DcO (H : Hp) (a : Addr) (ks : List D) (xs : List V) : Prop :=
  (∃ es : List (Key × V), H a = some (.dK es) ∧ es.map (·.2) = xs ∧ ks = es.map fun e => keyD e.1) ∨
  (∃ es : List (List Key × V), H a = some (.dT es) ∧ es.map (·.2) = xs ∧ ks = es.map fun e => tkD e.1)

mutual
/-- v is the datum d in H, and nothing of it lies at an address of O -/
def Rp (O : Addr → Prop) (H : Hp) : D → V → Prop
  | .none, v => v = .non
  | .bool b, v => v = .bl b
  | .int i, v => v = .int i
  | .str x, v => v = .str x
  | .list ds, v => ∃ a xs, v = .ref a ∧ ¬ O a ∧ Rd H a (.lst xs) ∧ RpAll O H ds xs
  | .tuple ds, v => ∃ a xs, v = .ref a ∧ ¬ O a ∧ Rd H a (.tup xs) ∧ RpAll O H ds xs
  | .dict kvs, v => ∃ a xs, v = .ref a ∧ ¬ O a ∧ DcAt H a (kvs.map (·.1)) xs ∧ RpSnd O H kvs xs
def RpAll (O : Addr → Prop) (H : Hp) : List D → List V → Prop
  | [], xs => xs = []
  | d :: ds, xs => ∃ y ys, xs = y :: ys ∧ Rp O H d y ∧ RpAll O H ds ys
def RpSnd (O : Addr → Prop) (H : Hp) : List (D × D) → List V → Prop
  | [], xs => xs = []
  | (_, d) :: ds, xs => ∃ y ys, xs = y :: ys ∧ Rp O H d y ∧ RpSnd O H ds ys
end

section
variable {O O' : Addr → Prop} {H H' : Hp}
theorem rd_move (h : ∀ a o, H a = some o → ¬ O a → H' a = some o ∧ ¬ O' a) {a : Addr} {u : HO} (n : ¬ O a) (r : Rd H a u) : Rd H' a u ∧ ¬ O' a := by
  rcases r with r | ⟨o, r⟩
  · exact ⟨.inl (h a _ r n).1, (h a _ r n).2⟩
  · exact ⟨.inr ⟨o, (h a _ r n).1⟩, (h a _ r n).2⟩
theorem dc_move (h : ∀ a o, H a = some o → ¬ O a → H' a = some o ∧ ¬ O' a) {a : Addr} {ks : List D} {xs : List V} (n : ¬ O a) (r : DcAt H a ks xs) : DcAt H' a ks xs ∧ ¬ O' a := by
  rcases r with ⟨es, r, q⟩ | ⟨es, r, q⟩
  · exact ⟨.inl ⟨es, (rd_move h n r).1, q⟩, (rd_move h n r).2⟩
  · exact ⟨.inr ⟨es, (h a _ r n).1, q⟩, (h a _ r n).2⟩
mutual
theorem Rp.move (h : ∀ a o, H a = some o → ¬ O a → H' a = some o ∧ ¬ O' a) : ∀ (d : D) (v : V), Rp O H d v → Rp O' H' d v
  | .none, _, x => x
  | .bool _, _, x => x
  | .int _, _, x => x
  | .str _, _, x => x
  | .list ds, _, ⟨a, xs, e, n, r, q⟩ => ⟨a, xs, e, (rd_move h n r).2, (rd_move h n r).1, RpAll.move h ds xs q⟩
  | .tuple ds, _, ⟨a, xs, e, n, r, q⟩ => ⟨a, xs, e, (rd_move h n r).2, (rd_move h n r).1, RpAll.move h ds xs q⟩
  | .dict kvs, _, ⟨a, xs, e, n, r, q⟩ => ⟨a, xs, e, (dc_move h n r).2, (dc_move h n r).1, RpSnd.move h kvs xs q⟩
theorem RpAll.move (h : ∀ a o, H a = some o → ¬ O a → H' a = some o ∧ ¬ O' a) : ∀ (ds : List D) (xs : List V), RpAll O H ds xs → RpAll O' H' ds xs
  | [], _, x => x
  | d :: ds, _, ⟨y, ys, e, q1, q2⟩ => ⟨y, ys, e, Rp.move h d y q1, RpAll.move h ds ys q2⟩
theorem RpSnd.move (h : ∀ a o, H a = some o → ¬ O a → H' a = some o ∧ ¬ O' a) : ∀ (ds : List (D × D)) (xs : List V), RpSnd O H ds xs → RpSnd O' H' ds xs
  | [], _, x => x
  | (_, d) :: ds, _, ⟨y, ys, e, q1, q2⟩ => ⟨y, ys, e, Rp.move h d y q1, RpSnd.move h ds ys q2⟩
end
theorem RpAll.length : ∀ {ds : List D} {xs : List V}, RpAll O H ds xs → xs.length = ds.length
  | [], _, x => by have e : _ = [] := x; rw [e]; rfl
  | d :: ds, _, ⟨y, ys, e, _, q⟩ => by rw [e, List.length_cons, List.length_cons, RpAll.length q]
theorem RpSnd.length : ∀ {ds : List (D × D)} {xs : List V}, RpSnd O H ds xs → xs.length = ds.length
  | [], _, x => by have e : _ = [] := x; rw [e]; rfl
  | (_, d) :: ds, _, ⟨y, ys, e, _, q⟩ => by rw [e, List.length_cons, List.length_cons, RpSnd.length q]
theorem RpAll.get : ∀ {ds : List D} {xs : List V} {i : Nat} {d : D}, RpAll O H ds xs → ds[i]? = some d → ∃ v, xs[i]? = some v ∧ Rp O H d v
  | [], _, _, _, _, h => by simp at h
  | d :: ds, _, 0, d', ⟨y, ys, e, q, _⟩, h => by
    simp at h; subst h; subst e; exact ⟨y, rfl, q⟩
  | d :: ds, _, i + 1, d', ⟨y, ys, e, _, q⟩, h => by
    subst e
    obtain ⟨v, h1, h2⟩ := RpAll.get (i := i) q (by simpa using h)
    exact ⟨v, by simpa using h1, h2⟩
theorem RpAll.get' : ∀ {ds : List D} {xs : List V} {i : Nat} {v : V}, RpAll O H ds xs → xs[i]? = some v → ∃ d, ds[i]? = some d ∧ Rp O H d v
  | [], _, _, _, x, h => by have e : _ = [] := x; rw [e] at h; simp at h
  | d :: ds, _, 0, v, ⟨y, ys, e, q, _⟩, h => by
    subst e; simp at h; subst h; exact ⟨d, rfl, q⟩
  | d :: ds, _, i + 1, v, ⟨y, ys, e, _, q⟩, h => by
    subst e
    obtain ⟨d', h1, h2⟩ := RpAll.get' (i := i) q (by simpa using h)
    exact ⟨d', by simpa using h1, h2⟩
theorem RpAll.nil : RpAll O H [] [] := rfl
theorem RpAll.cons {d : D} {ds : List D} {x : V} {xs : List V} (a : Rp O H d x) (b : RpAll O H ds xs) : RpAll O H (d :: ds) (x :: xs) := ⟨x, xs, rfl, a, b⟩
theorem RpAll.append : ∀ {ds es : List D} {xs ys : List V}, RpAll O H ds xs → RpAll O H es ys → RpAll O H (ds ++ es) (xs ++ ys)
  | [], _, _, _, x, y => by have e : _ = [] := x; rw [e]; exact y
  | d :: ds, _, _, _, ⟨z, zs, e, q, r⟩, y => by rw [e]; exact ⟨z, zs ++ _, rfl, q, RpAll.append r y⟩
theorem RpAll.of_get : ∀ {ds : List D} {xs : List V}, xs.length = ds.length → (∀ (i : Nat) (d : D) (v : V), ds[i]? = some d → xs[i]? = some v → Rp O H d v) → RpAll O H ds xs
  | [], [], _, _ => rfl
  | d :: ds, x :: xs, hl, h => ⟨x, xs, rfl, h 0 d x rfl rfl, RpAll.of_get (by simpa using hl) fun i d v a b => h (i + 1) d v (by simpa using a) (by simpa using b)⟩
  | [], _ :: _, hl, _ => by simp at hl
  | _ :: _, [], hl, _ => by simp at hl
theorem RpAll.set {ds : List D} {xs : List V} {d : D} {v : V} (h : RpAll O H ds xs) (hv : Rp O H d v) (i : Nat) : RpAll O H (ds.set i d) (xs.set i v) := by
  refine RpAll.of_get (by rw [List.length_set, List.length_set]; exact h.length) fun j e w h1 h2 => ?_
  by_cases hj : i = j
  · subst hj
    have hl : i < ds.length := by have := (List.getElem?_eq_some_iff.mp h1).1; simpa using this
    rw [List.getElem?_set_self hl] at h1
    rw [List.getElem?_set_self (by rw [h.length]; exact hl)] at h2
    cases h1; cases h2; exact hv
  · rw [List.getElem?_set_ne hj] at h1 h2
    obtain ⟨w', e1, e2⟩ := h.get h1
    rw [h2] at e1; cases e1; exact e2
theorem RpAll.sub {ds : List D} {xs : List V} (h : RpAll O H ds xs) (f : {α : Type} → List α → List α) (hf : ∀ {α β : Type} (g : α → β) (l : List α), f (l.map g) = (f l).map g) : RpAll O H (f ds) (f xs) := by
  -- both are images of one list of pairs
  have key : ∃ l : List (D × V), l.map (·.1) = ds ∧ l.map (·.2) = xs ∧ ∀ p ∈ l, Rp O H p.1 p.2 := by
    clear hf
    induction ds generalizing xs with
    | nil => exact ⟨[], rfl, by have e : xs = [] := h; rw [e]; rfl, fun p hp => by cases hp⟩
    | cons d ds ih =>
      obtain ⟨y, ys, e, q, r⟩ := h
      obtain ⟨l, e1, e2, e3⟩ := ih r
      refine ⟨(d, y) :: l, by rw [List.map_cons, e1], by rw [List.map_cons, e2, e], fun p hp => ?_⟩
      rcases List.mem_cons.mp hp with e | hp
      · rw [e]; exact q
      · exact e3 p hp
  obtain ⟨l, e1, e2, e3⟩ := key
  have hm : ∀ p ∈ f l, p ∈ l := by
    -- an element of f l: by naturality, f of the list of memberships
    intro p hp
    have : f l = (f (l.attach)).map Subtype.val := by
      rw [← hf]; rw [List.attach_map_subtype_val]
    rw [this] at hp
    obtain ⟨q, _, rfl⟩ := List.mem_map.mp hp
    exact q.2
  rw [← e1, ← e2, hf, hf]
  generalize f l = m at hm
  induction m with
  | nil => rfl
  | cons p m ih => exact ⟨p.2, m.map (·.2), rfl, e3 p (hm p List.mem_cons_self), ih fun q hq => hm q (List.mem_cons_of_mem _ hq)⟩
end

/-- an own list or dict at p, its items in O's complement -/
def RpO (O : Addr → Prop) (H : Hp) (p : Addr) : D → Prop
  | .list ds => ∃ xs, H p = some (.lst xs) ∧ RpAll O H ds xs
  | .dict kvs => ∃ xs, DcO H p (kvs.map (·.1)) xs ∧ RpSnd O H kvs xs
  | _ => False
/-- to be read -/
def RdD (O : Addr → Prop) (H : Hp) (d : D) (v : V) : Prop := Rp O H d v ∨ ∃ p, v = .ref p ∧ RpO O H p d
section
variable {O O' : Addr → Prop} {H H' : Hp} {p : Addr} {d : D} {v : V}
theorem RpO.there : ∀ {d : D}, RpO O H p d → ∃ o, H p = some o
  | .list _, ⟨_, h, _⟩ => ⟨_, h⟩
  | .dict _, ⟨_, .inl ⟨_, h, _⟩, _⟩ => ⟨_, h⟩
  | .dict _, ⟨_, .inr ⟨_, h, _⟩, _⟩ => ⟨_, h⟩
theorem RpO.mut : ∀ {d : D}, RpO O H p d → Mut (H p)
  | .list _, ⟨_, h, _⟩ => by rw [h]; trivial
  | .dict _, ⟨_, .inl ⟨_, h, _⟩, _⟩ => by rw [h]; trivial
  | .dict _, ⟨_, .inr ⟨_, h, _⟩, _⟩ => by rw [h]; trivial
theorem RpO.move (h : ∀ a o, H a = some o → ¬ O a → H' a = some o ∧ ¬ O' a) (hp : ∀ o, H p = some o → H' p = some o) : ∀ {d : D}, RpO O H p d → RpO O' H' p d
  | .list ds, ⟨xs, e, q⟩ => ⟨xs, hp _ e, RpAll.move h ds xs q⟩
  | .dict kvs, ⟨xs, .inl ⟨es, e, r⟩, q⟩ => ⟨xs, .inl ⟨es, hp _ e, r⟩, RpSnd.move h kvs xs q⟩
  | .dict kvs, ⟨xs, .inr ⟨es, e, r⟩, q⟩ => ⟨xs, .inr ⟨es, hp _ e, r⟩, RpSnd.move h kvs xs q⟩
/-- it is given up: a value as others -/
theorem RpO.give (n : ¬ O p) : ∀ {d : D}, RpO O H p d → Rp O H d (.ref p)
  | .list ds, ⟨xs, e, q⟩ => ⟨p, xs, rfl, n, .inl e, q⟩
  | .dict kvs, ⟨xs, .inl ⟨es, e, r⟩, q⟩ => ⟨p, xs, rfl, n, .inl ⟨es, .inl e, r⟩, q⟩
  | .dict kvs, ⟨xs, .inr ⟨es, e, r⟩, q⟩ => ⟨p, xs, rfl, n, .inr ⟨es, e, r⟩, q⟩
end

/-! ### an activation, its invariant -/
/-- a def that runs: the heap and the own objects at its entry, the parameters that it may change, the classes of exceptions by number -/
structure Act where
  H0 : Hp
  O0 : Addr → Prop
  Rf : Nat → Option Addr
  cls : Nat → Option Value
def Sl.isOw : Sl → Bool
  | .ow _ => true
  | .rf _ => true
  | _ => false
structure FI (A : Act) (O : Addr → Prop) (σ : St) (H : Hp) (g : Gam) : Prop where
  sh : ∀ (i : Nat) (d : D), g[i]? = some (.sh d) → ∃ v, σ[i]? = some (some v) ∧ Rp O H d v
  ow : ∀ (i : Nat) (d : D), g[i]? = some (.ow d) → ∃ p, σ[i]? = some (some (.ref p)) ∧ O p ∧ A.H0 p = none ∧ RpO O H p d
  rf : ∀ (i : Nat) (d : D), g[i]? = some (.rf d) → ∃ p, A.Rf i = some p ∧ σ[i]? = some (some (.ref p)) ∧ RpO O H p d
  inj : ∀ (i j : Nat) (s t : Sl) (p : Addr), g[i]? = some s → g[j]? = some t → s.isOw = true → t.isOw = true → σ[i]? = some (some (.ref p)) → σ[j]? = some (some (.ref p)) → i = j
  keep : ∀ a o, A.H0 a = some o → (∀ i, A.Rf i ≠ some a) → H a = some o
  tr : ∀ a o, A.H0 a = some o → ∃ o', H a = some o'
  up : ∀ a, A.O0 a → O a
  fr : ∀ a, O a → A.O0 a ∨ A.H0 a = none
  o0 : ∀ a, A.O0 a → ∃ o, A.H0 a = some o
  ot : ∀ a, O a → ∃ o, H a = some o
  r0 : ∀ i p, A.Rf i = some p → A.O0 p
  len : g.length = σ.length

/-- from (O, H) to (O', H'): what is not own stays; c: all stays -/
def Gr (c : Bool) (O : Addr → Prop) (H : Hp) (O' : Addr → Prop) (H' : Hp) : Prop :=
  (∀ a o, H a = some o → ¬ O a → H' a = some o ∧ ¬ O' a) ∧ (c = true → Same H H')
section
variable {c c' : Bool} {O O1 O2 : Addr → Prop} {H H1 H2 : Hp}
theorem Gr.refl : Gr c O H O H := ⟨fun _ _ e n => ⟨e, n⟩, fun _ => Same.refl H⟩
theorem Gr.trans (a : Gr c O H O1 H1) (b : Gr c' O1 H1 O2 H2) : Gr (c && c') O H O2 H2 :=
  ⟨fun x o e n => b.1 x o (a.1 x o e n).1 (a.1 x o e n).2, fun h => by
    have h := Bool.and_eq_true_iff.mp h
    exact (a.2 h.1).trans (b.2 h.2)⟩
theorem Gr.trT (a : Gr true O H O1 H1) (b : Gr true O1 H1 O2 H2) : Gr true O H O2 H2 := a.trans b
theorem Gr.weak (a : Gr c O H O1 H1) : Gr false O H O1 H1 := ⟨a.1, fun h => nomatch h⟩
theorem Gr.to (a : Gr true O H O1 H1) : Gr c O H O1 H1 := ⟨a.1, fun _ => a.2 rfl⟩
theorem Gr.rp (a : Gr c O H O1 H1) {d : D} {v : V} (h : Rp O H d v) : Rp O1 H1 d v := Rp.move a.1 d v h
theorem Gr.rpAll (a : Gr c O H O1 H1) {d : List D} {v : List V} (h : RpAll O H d v) : RpAll O1 H1 d v := RpAll.move a.1 d v h
theorem Gr.rd (a : Gr true O H O1 H1) {d : D} {v : V} (h : RdD O H d v) : RdD O1 H1 d v := by
  rcases h with h | ⟨p, e, h⟩
  · exact .inl (a.rp h)
  · exact .inr ⟨p, e, RpO.move a.1 (fun o q => a.2 rfl p o q) h⟩
/-- a new object -/
theorem Gr.new {p : Addr} {o : HO} (n : H p = none) (hO : ∀ a, O1 a → O a ∨ a = p) : Gr true O H O1 (upd H p o) :=
  ⟨fun a u e h => by
    have ne : a ≠ p := fun z => by rw [z, n] at e; cases e
    exact ⟨by rw [upd_ne ne]; exact e, fun q => (hO a q).elim h ne⟩, fun _ a u e => by
    have ne : a ≠ p := fun z => by rw [z, n] at e; cases e
    rw [upd_ne ne]; exact e⟩
end
end Z

namespace Z
open PySem L2

section
variable {A : Act} {O O' : Addr → Prop} {σ : L2.St} {H H' : Hp} {g : Gam} {p : Addr} {i j : Nat} {d : D} {v : V}
theorem setIs (l : Gam) (i j : Nat) (s : Sl) : (l.set i s)[j]? = if i = j then (if i < l.length then some s else none) else l[j]? := by
  by_cases h : i = j
  · subst h
    rw [if_pos rfl]
    by_cases hl : i < l.length
    · rw [if_pos hl, List.getElem?_set_self hl]
    · rw [if_neg hl, List.getElem?_eq_none (by simpa using hl)]
  · rw [if_neg h, List.getElem?_set_ne h]
theorem setV (l : L2.St) (i j : Nat) (s : Option V) : (l.set i s)[j]? = if i = j then (if i < l.length then some s else none) else l[j]? := by
  by_cases h : i = j
  · subst h
    rw [if_pos rfl]
    by_cases hl : i < l.length
    · rw [if_pos hl, List.getElem?_set_self hl]
    · rw [if_neg hl, List.getElem?_eq_none (by simpa using hl)]
  · rw [if_neg h, List.getElem?_set_ne h]
theorem FI.lt (F : FI A O σ H g) {s : Sl} (h : g[i]? = some s) : i < g.length := (List.getElem?_eq_some_iff.mp h).1
theorem FI.rO (F : FI A O σ H g) (h : A.Rf i = some p) : O p := F.up p (F.r0 i p h)
/-- an address of the entry's heap is tracked, so a new one is none of it -/
theorem FI.h0 (F : FI A O σ H g) (n : H p = none) : A.H0 p = none := by
  cases e : A.H0 p with
  | none => rfl
  | some o => obtain ⟨o', q⟩ := F.tr p o e; rw [n] at q; cases q
theorem FI.nO (F : FI A O σ H g) (n : H p = none) : ¬ O p := fun h => by
  obtain ⟨o, e⟩ := F.ot p h; rw [n] at e; cases e
/-- the address of an own slot -/
theorem FI.at (F : FI A O σ H g) {s : Sl} (h : g[i]? = some s) (o : s.isOw = true) : ∃ q, σ[i]? = some (some (.ref q)) ∧ O q ∧ (∃ u, H q = some u) ∧ Mut (H q) := by
  cases s with
  | no => cases o
  | sh d => cases o
  | ow d => obtain ⟨q, e, hO, _, r⟩ := F.ow i d h; exact ⟨q, e, hO, r.there, r.mut⟩
  | rf d => obtain ⟨q, er, e, r⟩ := F.rf i d h; exact ⟨q, e, F.rO er, r.there, r.mut⟩
theorem FI.free (F : FI A O σ H g) (n : H p = none) : ∀ (i : Nat) (s : Sl), g[i]? = some s → s.isOw = true → σ[i]? ≠ some (some (.ref p)) := fun i s h o e => by
  obtain ⟨q, e', _, ⟨u, hu⟩, _⟩ := F.at h o
  rw [e] at e'
  have : p = q := by injection e' with e'; injection e' with e'; injection e'
  rw [← this, n] at hu; cases hu

/-- more heap, more own objects (new ones) -/
theorem FI.step (F : FI A O σ H g) (sm : Same H H') (up : ∀ a, O a → O' a) (nw : ∀ a, O' a → O a ∨ (H a = none ∧ ∃ o, H' a = some o)) : FI A O' σ H' g := by
  have mv : ∀ a o, H a = some o → ¬ O a → H' a = some o ∧ ¬ O' a := fun a o e n => ⟨sm a o e, fun q => (nw a q).elim n fun z => by rw [z.1] at e; cases e⟩
  refine ⟨fun i d h => ?_, fun i d h => ?_, fun i d h => ?_, F.inj, fun a o e n => sm a o (F.keep a o e n), fun a o e => ?_, fun a h => up a (F.up a h), fun a h => ?_, F.o0, fun a h => ?_, F.r0, F.len⟩
  · obtain ⟨v, e, r⟩ := F.sh i d h; exact ⟨v, e, Rp.move mv d v r⟩
  · obtain ⟨p, e, ho, n, r⟩ := F.ow i d h; exact ⟨p, e, up p ho, n, r.move mv fun o q => sm p o q⟩
  · obtain ⟨p, er, e, r⟩ := F.rf i d h; exact ⟨p, er, e, r.move mv fun o q => sm p o q⟩
  · obtain ⟨o', e'⟩ := F.tr a o e; exact ⟨o', sm a o' e'⟩
  · rcases nw a h with q | ⟨q, _⟩
    · exact F.fr a q
    · exact .inr (F.h0 q)
  · rcases nw a h with q | ⟨_, q⟩
    · obtain ⟨o, e⟩ := F.ot a q; exact ⟨o, sm a o e⟩
    · exact q
theorem same_new {o : HO} (n : H p = none) : Same H (upd H p o) := fun a u e => by
  have ne : a ≠ p := fun z => by rw [z, n] at e; cases e
  rw [upd_ne ne]; exact e
theorem FI.same (F : FI A O σ H g) (sm : Same H H') : FI A O σ H' g := F.step sm (fun _ h => h) fun _ h => .inl h
theorem FI.new (F : FI A O σ H g) {o : HO} (n : H p = none) : FI A O σ (upd H p o) g := F.same (same_new n)
/-- O and p -/
def Oadd (O : Addr → Prop) (p : Addr) : Addr → Prop := fun a => O a ∨ a = p
/-- O without p -/
def Odel (O : Addr → Prop) (p : Addr) : Addr → Prop := fun a => O a ∧ a ≠ p
theorem FI.own (F : FI A O σ H g) {o : HO} (n : H p = none) : FI A (Oadd O p) σ (upd H p o) g :=
  F.step (same_new n) (fun _ h => .inl h) fun a h => h.elim .inl fun e => .inr (by subst e; exact ⟨n, o, upd_same⟩)
theorem odel_move : ∀ a o, H a = some o → ¬ O a → H a = some o ∧ ¬ Odel O p a := fun _ _ e n => ⟨e, fun q => n q.1⟩
/-- an own object that is none of the slots' is given up -/
theorem FI.drop (F : FI A O σ H g) (nz : A.H0 p = none) (ns : ∀ (i : Nat) (s : Sl), g[i]? = some s → s.isOw = true → σ[i]? ≠ some (some (.ref p))) : FI A (Odel O p) σ H g := by
  refine ⟨fun i d h => ?_, fun i d h => ?_, fun i d h => ?_, F.inj, F.keep, F.tr, fun a h => ⟨F.up a h, fun e => ?_⟩, fun a h => F.fr a h.1, F.o0, fun a h => F.ot a h.1, F.r0, F.len⟩
  · obtain ⟨v, e, r⟩ := F.sh i d h; exact ⟨v, e, Rp.move odel_move d v r⟩
  · obtain ⟨q, e, ho, n, r⟩ := F.ow i d h; exact ⟨q, e, ⟨ho, fun z => ns i _ h rfl (by rw [e, z])⟩, n, r.move odel_move fun _ q => q⟩
  · obtain ⟨q, er, e, r⟩ := F.rf i d h; exact ⟨q, er, e, r.move odel_move fun _ q => q⟩
  · subst e; obtain ⟨o, q⟩ := F.o0 a h; rw [nz] at q; cases q
theorem RpO.del (r : RpO O H p d) : Rp (Odel O p) H d (.ref p) := (r.move (O' := Odel O p) odel_move fun _ q => q).give fun q => q.2 rfl
theorem Gr.del {c : Bool} {O1 : Addr → Prop} {H1 : Hp} (a : Gr c O H O1 H1) : Gr c O H (Odel O1 p) H1 := ⟨fun x o e n => ⟨(a.1 x o e n).1, fun q => (a.1 x o e n).2 q.1⟩, a.2⟩
/-- forgetting -/
theorem FI.forget (F : FI A O σ H g) {g' : Gam} (hl : g'.length = g.length) (w : ∀ (i : Nat) (s : Sl), g'[i]? = some s → s = .no ∨ g[i]? = some s) : FI A O σ H g' := by
  have cut : ∀ {i : Nat} {s : Sl}, g'[i]? = some s → s ≠ .no → g[i]? = some s := fun {i s} h n => (w i s h).elim (fun e => absurd e n) id
  refine ⟨fun i d h => F.sh i d (cut h (fun z => nomatch z)), fun i d h => F.ow i d (cut h (fun z => nomatch z)), fun i d h => F.rf i d (cut h (fun z => nomatch z)), fun i j s t p h1 h2 o1 o2 => ?_, F.keep, F.tr, F.up, F.fr, F.o0, F.ot, F.r0, hl.trans F.len⟩
  exact F.inj i j s t p (cut h1 (fun z => by rw [z] at o1; cases o1)) (cut h2 (fun z => by rw [z] at o2; cases o2)) o1 o2
/-- an own slot is given up: from now on it never changes -/
theorem FI.freeze (F : FI A O σ H g) (h : g[i]? = some (.ow d)) (e : σ[i]? = some (some (.ref p))) : FI A (Odel O p) σ H (g.set i (.sh d)) ∧ Rp (Odel O p) H d (.ref p) := by
  obtain ⟨q, e', ho, n, r⟩ := F.ow i d h
  rw [e] at e'
  have : p = q := by injection e' with e'; injection e' with e'; injection e'
  subst this
  have hi := F.lt h
  have G := F.forget (g' := g.set i .no) (by simp) fun j s hs => by
    rw [setIs] at hs
    split at hs
    · cases hs; exact .inl rfl
    · exact .inr hs
  have G2 := G.drop n fun j s hs o z => by
    rw [setIs] at hs
    split at hs
    · cases hs; cases o
    · rename_i hij
      exact hij (F.inj i j _ s p h hs rfl o e z)
  refine ⟨?_, r.del⟩
  have rp := r.del
  have gj : ∀ {j : Nat} {s : Sl}, i ≠ j → (g.set i (.sh d))[j]? = some s → (g.set i .no)[j]? = some s := fun {j s} hij hs => by rw [setIs, if_neg hij] at hs ⊢; exact hs
  have go : ∀ {j : Nat} {s : Sl}, s.isOw = true → (g.set i (.sh d))[j]? = some s → (g.set i .no)[j]? = some s := fun {j s} o hs => by
    by_cases hij : i = j
    · subst hij; rw [setIs, if_pos rfl, if_pos hi] at hs; cases hs; cases o
    · exact gj hij hs
  refine ⟨fun j d' hs => ?_, fun j d' hs => G2.ow j d' (go rfl hs), fun j d' hs => G2.rf j d' (go rfl hs), fun j k s t q h1 h2 o1 o2 => G2.inj j k s t q (go o1 h1) (go o2 h2) o1 o2, G2.keep, G2.tr, G2.up, G2.fr, G2.o0, G2.ot, G2.r0, by rw [List.length_set]; exact F.len⟩
  by_cases hij : i = j
  · subst hij; rw [setIs, if_pos rfl, if_pos hi] at hs; cases hs; exact ⟨_, e, rp⟩
  · exact G2.sh j d' (gj hij hs)
/-- a slot is stored: a value that never changes -/
theorem FI.setSh (F : FI A O σ H g) (hi : i < g.length) (r : Rp O H d v) : FI A O (σ.set i (some v)) H (g.set i (.sh d)) := by
  have hiσ : i < σ.length := by rw [← F.len]; exact hi
  have cut : ∀ {j : Nat} {s : Sl}, i ≠ j → (g.set i (.sh d))[j]? = some s → g[j]? = some s := fun {j s} hij hs => by rw [setIs, if_neg hij] at hs; exact hs
  have ne : ∀ {j : Nat} {s : Sl}, s.isOw = true → (g.set i (.sh d))[j]? = some s → i ≠ j := fun {j s} o hs z => by
    subst z; rw [setIs, if_pos rfl, if_pos hi] at hs; cases hs; cases o
  refine ⟨fun j d' hs => ?_, fun j d' hs => ?_, fun j d' hs => ?_, fun j k s t q h1 h2 o1 o2 e1 e2 => ?_, F.keep, F.tr, F.up, F.fr, F.o0, F.ot, F.r0, by rw [List.length_set, List.length_set]; exact F.len⟩
  · by_cases hij : i = j
    · subst hij; rw [setIs, if_pos rfl, if_pos hi] at hs; cases hs; exact ⟨v, by rw [setV, if_pos rfl, if_pos hiσ], r⟩
    · obtain ⟨w, e, q⟩ := F.sh j d' (cut hij hs); exact ⟨w, by rw [setV, if_neg hij]; exact e, q⟩
  · have hij := ne rfl hs
    obtain ⟨p, e, q⟩ := F.ow j d' (cut hij hs); exact ⟨p, by rw [setV, if_neg hij]; exact e, q⟩
  · have hij := ne rfl hs
    obtain ⟨p, er, e, q⟩ := F.rf j d' (cut hij hs); exact ⟨p, er, by rw [setV, if_neg hij]; exact e, q⟩
  · have hj := ne o1 h1
    have hk := ne o2 h2
    rw [setV, if_neg hj] at e1
    rw [setV, if_neg hk] at e2
    exact F.inj j k s t q (cut hj h1) (cut hk h2) o1 o2 e1 e2
/-- a slot is stored: an own object -/
theorem FI.setOw (F : FI A O σ H g) (hi : i < g.length) (ho : O p) (nz : A.H0 p = none) (r : RpO O H p d)
    (ns : ∀ (i : Nat) (s : Sl), g[i]? = some s → s.isOw = true → σ[i]? ≠ some (some (.ref p))) : FI A O (σ.set i (some (.ref p))) H (g.set i (.ow d)) := by
  have hiσ : i < σ.length := by rw [← F.len]; exact hi
  have cut : ∀ {j : Nat} {s : Sl}, i ≠ j → (g.set i (.ow d))[j]? = some s → g[j]? = some s := fun {j s} hij hs => by rw [setIs, if_neg hij] at hs; exact hs
  refine ⟨fun j d' hs => ?_, fun j d' hs => ?_, fun j d' hs => ?_, fun j k s t q h1 h2 o1 o2 e1 e2 => ?_, F.keep, F.tr, F.up, F.fr, F.o0, F.ot, F.r0, by rw [List.length_set, List.length_set]; exact F.len⟩
  · have hij : i ≠ j := fun z => by subst z; rw [setIs, if_pos rfl, if_pos hi] at hs; cases hs
    obtain ⟨w, e, q⟩ := F.sh j d' (cut hij hs); exact ⟨w, by rw [setV, if_neg hij]; exact e, q⟩
  · by_cases hij : i = j
    · subst hij; rw [setIs, if_pos rfl, if_pos hi] at hs; cases hs; exact ⟨p, by rw [setV, if_pos rfl, if_pos hiσ], ho, nz, r⟩
    · obtain ⟨p, e, q⟩ := F.ow j d' (cut hij hs); exact ⟨p, by rw [setV, if_neg hij]; exact e, q⟩
  · have hij : i ≠ j := fun z => by subst z; rw [setIs, if_pos rfl, if_pos hi] at hs; cases hs
    obtain ⟨p, er, e, q⟩ := F.rf j d' (cut hij hs); exact ⟨p, er, by rw [setV, if_neg hij]; exact e, q⟩
  · by_cases hj : i = j
    · by_cases hk : i = k
      · exact hj.symm.trans hk
      · subst hj
        rw [setV, if_pos rfl, if_pos hiσ] at e1
        rw [setV, if_neg hk] at e2
        have : p = q := by injection e1 with e1; injection e1 with e1; injection e1
        subst this
        exact absurd e2 (ns k t (cut hk h2) o2)
    · by_cases hk : i = k
      · subst hk
        rw [setV, if_pos rfl, if_pos hiσ] at e2
        rw [setV, if_neg hj] at e1
        have : p = q := by injection e2 with e2; injection e2 with e2; injection e2
        subst this
        exact absurd e1 (ns j s (cut hj h1) o1)
      · rw [setV, if_neg hj] at e1
        rw [setV, if_neg hk] at e2
        exact F.inj j k s t q (cut hj h1) (cut hk h2) o1 o2 e1 e2
/-- an own slot's object is changed -/
def Sl.to : Sl → D → Sl
  | .ow _, d => .ow d
  | .rf _, d => .rf d
  | s, _ => s
theorem Sl.to_ow {s : Sl} {d : D} (o : s.isOw = true) : (s.to d).isOw = true := by cases s <;> first | rfl | cases o
theorem FI.write (F : FI A O σ H g) {s : Sl} {o : HO} (h : g[i]? = some s) (ow : s.isOw = true) (e : σ[i]? = some (some (.ref p))) (r : RpO O (upd H p o) p d) : FI A O σ (upd H p o) (g.set i (s.to d)) := by
  have hi := F.lt h
  obtain ⟨q, e', hO, ⟨u, hu⟩, hm⟩ := F.at h ow
  rw [e] at e'
  have : p = q := by injection e' with e'; injection e' with e'; injection e'
  subst this
  have mv : ∀ a o', H a = some o' → ¬ O a → upd H p o a = some o' ∧ ¬ O a := fun a o' ea n => ⟨by rw [upd_ne (fun z => n (by rw [z]; exact hO))]; exact ea, n⟩
  have cut : ∀ {j : Nat} {t : Sl}, i ≠ j → (g.set i (s.to d))[j]? = some t → g[j]? = some t := fun {j t} hij hs => by rw [setIs, if_neg hij] at hs; exact hs
  have hp0 : ∀ a o', A.H0 a = some o' → (∀ i, A.Rf i ≠ some a) → a ≠ p := fun a o' ea na z => by
    subst z
    cases s with
    | no => cases ow
    | sh d => cases ow
    | ow d0 =>
      obtain ⟨q, e1, _, n, _⟩ := F.ow i d0 h
      rw [e] at e1
      have : a = q := by injection e1 with e1; injection e1 with e1; injection e1
      subst this; rw [n] at ea; cases ea
    | rf d0 =>
      obtain ⟨q, er, e1, _⟩ := F.rf i d0 h
      rw [e] at e1
      have : a = q := by injection e1 with e1; injection e1 with e1; injection e1
      subst this; exact na i er
  have self : (g.set i (s.to d))[i]? = some (s.to d) := by rw [setIs, if_pos rfl, if_pos hi]
  refine ⟨fun j d' hs => ?_, fun j d' hs => ?_, fun j d' hs => ?_, fun j k t t' q h1 h2 o1 o2 e1 e2 => ?_, fun a o' ea na => by rw [upd_ne (hp0 a o' ea na)]; exact F.keep a o' ea na, fun a o' ea => ?_, F.up, F.fr, F.o0, fun a ha => ?_, F.r0, by rw [List.length_set]; exact F.len⟩
  · have hij : i ≠ j := fun z => by
      subst z; rw [self] at hs
      cases s with
      | no => cases ow
      | sh d => cases ow
      | ow d => cases hs
      | rf d => cases hs
    obtain ⟨w, e, q⟩ := F.sh j d' (cut hij hs); exact ⟨w, e, Rp.move mv _ _ q⟩
  · by_cases hij : i = j
    · subst hij; rw [self] at hs
      cases s with
      | no => cases ow
      | sh d => cases ow
      | ow d0 =>
        cases hs
        obtain ⟨q, e1, ho, n, _⟩ := F.ow i d0 h
        rw [e] at e1
        have : p = q := by injection e1 with e1; injection e1 with e1; injection e1
        subst this
        exact ⟨p, e, ho, n, r⟩
      | rf d => cases hs
    · obtain ⟨q, eq, ho, n, rq⟩ := F.ow j d' (cut hij hs)
      have hne : q ≠ p := fun z => hij (F.inj i j s _ p h (cut hij hs) ow rfl e (by rw [eq, z]))
      exact ⟨q, eq, ho, n, rq.move mv fun o' q' => by rw [upd_ne hne]; exact q'⟩
  · by_cases hij : i = j
    · subst hij; rw [self] at hs
      cases s with
      | no => cases ow
      | sh d => cases ow
      | ow d => cases hs
      | rf d0 =>
        cases hs
        obtain ⟨q, er, e1, _⟩ := F.rf i d0 h
        rw [e] at e1
        have : p = q := by injection e1 with e1; injection e1 with e1; injection e1
        subst this
        exact ⟨p, er, e, r⟩
    · obtain ⟨q, er, eq, rq⟩ := F.rf j d' (cut hij hs)
      have hne : q ≠ p := fun z => hij (F.inj i j s _ p h (cut hij hs) ow rfl e (by rw [eq, z]))
      exact ⟨q, er, eq, rq.move mv fun o' q' => by rw [upd_ne hne]; exact q'⟩
  · have back : ∀ {j : Nat} {t : Sl}, (g.set i (s.to d))[j]? = some t → t.isOw = true → ∃ t0, g[j]? = some t0 ∧ t0.isOw = true := fun {j t} hs o' => by
      by_cases hij : i = j
      · subst hij; exact ⟨s, h, ow⟩
      · exact ⟨t, cut hij hs, o'⟩
    obtain ⟨t1, q1, q2⟩ := back h1 o1
    obtain ⟨t2, q3, q4⟩ := back h2 o2
    exact F.inj j k t1 t2 q q1 q3 q2 q4 e1 e2
  · by_cases z : a = p
    · subst z; exact ⟨o, upd_same⟩
    · rw [upd_ne z]; exact F.tr a o' ea
  · by_cases z : a = p
    · subst z; exact ⟨o, upd_same⟩
    · rw [upd_ne z]; exact F.ot a ha
theorem Gr.write {c : Bool} {o : HO} (ho : O p) : Gr false O H O (upd H p o) := ⟨fun a u e n => ⟨by rw [upd_ne (fun z => n (by rw [z]; exact ho))]; exact e, n⟩, fun z => nomatch z⟩
end
end Z

namespace Z
open PySem L2

/-! ### what is wanted of an answer -/
structure Go (A : Act) (W : WX) (r : R) : Prop where
  ne : r ≠ .err
  ex : ∀ (c : Nat) (g : Gam), r = .exc c g → ∀ (cv : Value) (d : Option Addr) (σ : L2.St) (O : Addr → Prop) (H : Hp), A.cls c = some cv → FI A O σ H g → W cv d σ H
abbrev Pst (α : Type) := (Addr → Prop) → Hp → L2.St → Gam → V → α → Prop
/-- a value that never changes; one to be read; a new own one, or one that never changes -/
def pS : Pst D := fun O H _ _ v d => Rp O H d v
def pR : Pst D := fun O H _ _ v d => RdD O H d v
def VO (A : Act) (O : Addr → Prop) (H : Hp) (σ : L2.St) (g : Gam) (v : V) (d : D) : Prop :=
  ∃ p, v = .ref p ∧ O p ∧ A.H0 p = none ∧ RpO O H p d ∧ ∀ (i : Nat) (s : Sl), g[i]? = some s → s.isOw = true → σ[i]? ≠ some (some (.ref p))
def pF (A : Act) : Pst Sl := fun O H σ g v s => match s with
  | .sh d => Rp O H d v
  | .ow d => VO A O H σ g v d
  | _ => False
def pM (m : Bool) : Pst D := if m = true then pS else pR
/-- an expression's reading -/
def tG {α : Type} (A : Act) (W : WX) (c : Bool) (P : Pst α) (f : Gam → (α → Gam → R) → R) : TE := fun σ H Q =>
  ∃ (O : Addr → Prop) (g : Gam) (k : α → Gam → R) (r : R), FI A O σ H g ∧ f g k = r ∧ Go A W r ∧
    ∀ (v : V) (a : α) (O' : Addr → Prop) (H' : Hp) (g' : Gam), FI A O' σ H' g' → Gr c O H O' H' → P O' H' σ g' v a → k a g' = r → Q v H'
def tGT (A : Act) (W : WX) (c : Bool) (f : Gam → (Bool → Gam → R) → R) : TT := fun σ H Q =>
  ∃ (O : Addr → Prop) (g : Gam) (k : Bool → Gam → R) (r : R), FI A O σ H g ∧ f g k = r ∧ Go A W r ∧
    ∀ (b : Bool) (O' : Addr → Prop) (H' : Hp) (g' : Gam), FI A O' σ H' g' → Gr c O H O' H' → k b g' = r → Q b H'
def RdL (O : Addr → Prop) (H : Hp) : List D → List V → Prop
  | [], vs => vs = []
  | d :: ds, vs => ∃ w ws, vs = w :: ws ∧ RdD O H d w ∧ RdL O H ds ws
def tGL (A : Act) (W : WX) (c : Bool) (n : Nat) (P : (Addr → Prop) → Hp → List D → List V → Prop) (f : Gam → (List D → Gam → R) → R) : TA := fun σ H Q =>
  ∃ (O : Addr → Prop) (g : Gam) (k : List D → Gam → R) (r : R), FI A O σ H g ∧ f g k = r ∧ Go A W r ∧
    ∀ (vs : List V) (ds : List D) (O' : Addr → Prop) (H' : Hp) (g' : Gam), FI A O' σ H' g' → Gr c O H O' H' → P O' H' ds vs → ds.length = n → k ds g' = r → Q vs H'

abbrev KD := D → Gam → R
abbrev KS := Sl → Gam → R
abbrev DnD := Gam → KD → R
abbrev DnS := Gam → KS → R
abbrev DnB := Gam → (Bool → Gam → R) → R
abbrev DnL := Gam → (List D → Gam → R) → R
abbrev DnT := Gam → (Gam → R) → R
structure DS (X : Cx) (W : WX) (A : Act) (c : Bool) (e : Expr) (f : DnD) : Prop where
  pe : PE X e (tG A W c pS f)
structure DR (X : Cx) (W : WX) (A : Act) (c : Bool) (e : Expr) (f : DnD) : Prop where
  pe : PE X e (tG A W c pR f)
structure DF (X : Cx) (W : WX) (A : Act) (c : Bool) (e : Expr) (f : DnS) : Prop where
  pe : PE X e (tG A W c (pF A) f)
structure DB (X : Cx) (W : WX) (A : Act) (c : Bool) (e : Expr) (f : DnB) : Prop where
  pt : PT X e (tGT A W c f)
/-- m: the value holds through whatever comes; else it is to be read at once -/
structure DM (m : Bool) (X : Cx) (W : WX) (A : Act) (c : Bool) (e : Expr) (f : DnD) : Prop where
  pe : PE X e (tG A W c (pM m) f)
def pLM (m : Bool) : (Addr → Prop) → Hp → List D → List V → Prop := if m = true then RpAll else RdL
structure DL (m : Bool) (X : Cx) (W : WX) (A : Act) (c : Bool) (es : List Expr) (f : DnL) : Prop where
  pa : PA X es (tGL A W c es.length (pLM m) f)

section
variable {X : Cx} {W : WX} {A : Act} {c ca cb m m' : Bool} {e a b : Expr}
theorem _root_.L2.PE.imp {t t' : TE} (h : PE X e t) (w : ∀ σ H Q, t' σ H Q → t σ H Q) : PE X e t' := ⟨fun pins s σ H Q I q => h.run pins s σ H Q I (w σ H Q q)⟩
theorem _root_.L2.PT.imp {t t' : TT} (h : PT X e t) (w : ∀ σ H Q, t' σ H Q → t σ H Q) : PT X e t' := ⟨fun pins s σ H Q I q => h.run pins s σ H Q I (w σ H Q q)⟩
theorem _root_.L2.PA.imp {es : List Expr} {t t' : TA} (h : PA X es t) (w : ∀ σ H Q, t' σ H Q → t σ H Q) : PA X es t' := ⟨fun pos pins s σ H Q I q => h.run pos pins s σ H Q I (w σ H Q q)⟩

/-! ### from one judgement to another -/
def kfz (k : KD) : KS := fun s g => match s with
  | .sh d => k d g
  | .ow d => k d g
  | _ => .err
/-- a value, given up -/
def fz (f : DnS) : DnD := fun g k => f g (kfz k)
def shF (f : DnD) : DnS := fun g k => f g fun d g' => k (.sh d) g'
theorem tG_fz {f : DnS} {P : Pst D} (hP : ∀ O H σ g v d, Rp O H d v → P O H σ g v d) {σ : L2.St} {H : Hp} {Q : VK} (h : tG A W c P (fz f) σ H Q) : tG A W c (pF A) f σ H Q := by
  obtain ⟨O, g, k, r, F, e, G, q⟩ := h
  refine ⟨O, g, kfz k, r, F, e, G, fun v s O' H' g' F' gr p e' => ?_⟩
  cases s with
  | no => exact p.elim
  | rf d => exact p.elim
  | sh d => exact q v d O' H' g' F' gr (hP _ _ _ _ _ _ p) e'
  | ow d =>
    obtain ⟨a, rfl, ho, n, ro, ns⟩ := p
    exact q (.ref a) d (Odel O' a) H' g' (F'.drop n ns) gr.del (hP _ _ _ _ _ _ ro.del) e'
theorem DF.s {f : DnS} (h : DF X W A c e f) : DS X W A c e (fz f) := ⟨h.pe.imp fun _ _ _ q => tG_fz (fun _ _ _ _ _ _ x => x) q⟩
theorem DS.r {f : DnD} (h : DS X W A c e f) : DR X W A c e f := ⟨h.pe.imp fun _ _ _ ⟨O, g, k, r, F, e, G, q⟩ => ⟨O, g, k, r, F, e, G, fun v d O' H' g' F' gr p e' => q v d O' H' g' F' gr (.inl p) e'⟩⟩
theorem DF.r {f : DnS} (h : DF X W A c e f) : DR X W A c e (fz f) := h.s.r
theorem DS.f {f : DnD} (h : DS X W A c e f) : DF X W A c e (shF f) := ⟨h.pe.imp fun _ _ _ ⟨O, g, k, r, F, e, G, q⟩ => ⟨O, g, fun d g' => k (.sh d) g', r, F, e, G, fun v d O' H' g' F' gr p e' => q v (.sh d) O' H' g' F' gr p e'⟩⟩
theorem DS.mm {f : DnD} (h : DS X W A c e f) : DM true X W A c e f := ⟨h.pe⟩
theorem DR.mm {f : DnD} (h : DR X W A c e f) : DM false X W A c e f := ⟨h.pe⟩
theorem DF.mm {f : DnS} (h : DF X W A c e f) : DM true X W A c e (fz f) := h.s.mm
theorem pM_rd {O : Addr → Prop} {H : Hp} {σ : L2.St} {g : Gam} {v : V} {d : D} (h : pM m O H σ g v d) : RdD O H d v := by
  cases m with
  | true => exact .inl h
  | false => exact h
theorem pM_keep {O O' : Addr → Prop} {H H' : Hp} {σ σ' : L2.St} {g g' : Gam} {v : V} {d : D} (hm : (m || c) = true) (h : pM m O H σ g v d) (gr : Gr c O H O' H') : pM m O' H' σ' g' v d := by
  cases m with
  | true => exact gr.rp h
  | false =>
    have hc : c = true := by simpa using hm
    subst hc
    exact gr.rd h
theorem DM.r {f : DnD} (h : DM m X W A c e f) : DR X W A c e f := ⟨h.pe.imp fun _ _ _ ⟨O, g, k, r, F, e, G, q⟩ => ⟨O, g, k, r, F, e, G, fun v d O' H' g' F' gr p e' => q v d O' H' g' F' gr (pM_rd p) e'⟩⟩

/-! ### values that are made -/
/-- a value s is made in H, the heap behind it H' -/
def Res (O : Addr → Prop) (H H' : Hp) (v : V) (s : Sl) : Prop := Same H H' ∧ match s with
  | .sh d => Rp O H' d v
  | .ow d => ∃ p, v = .ref p ∧ H p = none ∧ RpO (Oadd O p) H' p d
  | _ => False
/-- a value is made of what was read: to a new answer of the same context -/
theorem Res.pF {O : Addr → Prop} {H H' : Hp} {σ : L2.St} {g : Gam} {v : V} {s : Sl} (r : Res O H H' v s) (F : FI A O σ H g) : ∃ O', FI A O' σ H' g ∧ Gr true O H O' H' ∧ pF A O' H' σ g v s := by
  obtain ⟨sm, r⟩ := r
  cases s with
  | no => exact r.elim
  | rf d => exact r.elim
  | sh d => exact ⟨O, F.same sm, ⟨fun a o e n => ⟨sm a o e, n⟩, fun _ => sm⟩, r⟩
  | ow d =>
    obtain ⟨p, rfl, n, r⟩ := r
    refine ⟨Oadd O p, F.step sm (fun _ h => .inl h) (fun a h => h.elim .inl fun e => .inr (by subst e; exact ⟨n, r.there⟩)), ⟨fun a o e h => ⟨sm a o e, fun q => q.elim h fun z => by subst z; rw [n] at e; cases e⟩, fun _ => sm⟩, p, rfl, .inr rfl, F.h0 n, r, F.free n⟩
abbrev OT (O : Addr → Prop) (H : Hp) : Prop := ∀ a, O a → ∃ o, H a = some o
theorem OT.n {O : Addr → Prop} {H : Hp} (h : OT O H) {p : Addr} (n : H p = none) : ¬ O p := fun q => by obtain ⟨o, e⟩ := h p q; rw [n] at e; cases e
theorem mv_new {O : Addr → Prop} {H : Hp} {p : Addr} {o : HO} (n : H p = none) : ∀ a u, H a = some u → ¬ O a → upd H p o a = some u ∧ ¬ O a := fun a u e h => ⟨same_new n a u e, h⟩
theorem mv_add {O : Addr → Prop} {H : Hp} {p : Addr} {o : HO} (n : H p = none) : ∀ a u, H a = some u → ¬ O a → upd H p o a = some u ∧ ¬ Oadd O p a := fun a u e h => ⟨same_new n a u e, fun q => q.elim h fun z => by subst z; rw [n] at e; cases e⟩
theorem res_sh {O : Addr → Prop} {H : Hp} {v : V} {d : D} (r : Rp O H d v) : Res O H H v (.sh d) := ⟨Same.refl H, r⟩
theorem res_tup {O : Addr → Prop} {H : Hp} {p : Addr} {ds : List D} {xs : List V} (ot : OT O H) (n : H p = none) (r : RpAll O H ds xs) : Res O H (upd H p (.tup xs)) (.ref p) (.sh (.tuple ds)) :=
  ⟨same_new n, p, xs, rfl, ot.n n, .inl upd_same, RpAll.move (mv_new n) ds xs r⟩
theorem res_lst {O : Addr → Prop} {H : Hp} {p : Addr} {ds : List D} {xs : List V} (n : H p = none) (r : RpAll O H ds xs) : Res O H (upd H p (.lst xs)) (.ref p) (.ow (.list ds)) :=
  ⟨same_new n, p, rfl, n, xs, upd_same, RpAll.move (mv_add n) ds xs r⟩

/-! ### constants and names -/
def conC (d : D) : DnD := fun g k => k d g
theorem ds_con {d : D} {v : V} (h : PE X e (tC v)) (r : ∀ O H, Rp O H d v) : DS X W A true e (conC d) :=
  ⟨h.imp fun σ H Q ⟨O, g, k, r', F, e, G, q⟩ => q v d O H g F Gr.refl (r O H) e⟩
theorem ds_int {i : Int} {j pos} : DS X W A true (.Constant (.int i) j pos) (conC (.int i)) := ds_con pe_int fun _ _ => rfl
theorem ds_bl {i : Bool} {j pos} : DS X W A true (.Constant (.bool i) j pos) (conC (.bool i)) := ds_con pe_bl fun _ _ => rfl
theorem ds_str {i : Str} {j pos} : DS X W A true (.Constant (.str i) j pos) (conC (.str i)) := ds_con pe_str fun _ _ => rfl
theorem ds_non {j pos} : DS X W A true (.Constant .none j pos) (conC .none) := ds_con pe_non fun _ _ => rfl
theorem ds_glob {i : Int} {x : Str} {t : Tok} {pos : Pos} (hg : Gl X x) (hm : X.mg x = some (.int i t)) (hd : (x == ("__debug__" : Str)) = false := by decide) : DS X W A true (.Name x pos) (conC (.int i)) := ds_con (v := .int i) (pe_glob hg hm ⟨t, rfl⟩ hd) fun _ _ => rfl
/-- a name whose value goes on -/
def varC (i : Nat) : DnD := fun g k => match g[i]? with
  | some (.sh d) => k d g
  | some (.ow d) => k d (g.set i (.sh d))
  | _ => .err
/-- a name that is read -/
def borC (i : Nat) : DnD := fun g k => match g[i]? with
  | some (.sh d) => k d g
  | some (.ow d) => k d g
  | some (.rf d) => k d g
  | _ => .err
theorem ds_var {i : Nat} (h : PE X e (tVar i)) : DS X W A true e (varC i) := ⟨h.imp fun σ H Q ⟨O, g, k, r, F, e, G, q⟩ => by
  unfold varC at e
  cases hs : g[i]? with
  | none => rw [hs] at e; exact absurd e.symm G.ne
  | some s =>
    rw [hs] at e
    cases s with
    | no => exact absurd e.symm G.ne
    | rf d => exact absurd e.symm G.ne
    | sh d =>
      obtain ⟨v, ev, rv⟩ := F.sh i d hs
      exact ⟨v, ev, q v d O H g F Gr.refl rv e⟩
    | ow d =>
      obtain ⟨p, ep, _, _, _⟩ := F.ow i d hs
      obtain ⟨F', rp⟩ := F.freeze hs ep
      exact ⟨_, ep, q _ d _ H _ F' Gr.refl.del rp e⟩⟩
theorem dr_var {i : Nat} (h : PE X e (tVar i)) : DR X W A true e (borC i) := ⟨h.imp fun σ H Q ⟨O, g, k, r, F, e, G, q⟩ => by
  unfold borC at e
  cases hs : g[i]? with
  | none => rw [hs] at e; exact absurd e.symm G.ne
  | some s =>
    rw [hs] at e
    cases s with
    | no => exact absurd e.symm G.ne
    | rf d =>
      obtain ⟨p, _, ep, rp⟩ := F.rf i d hs
      exact ⟨_, ep, q _ d O H g F Gr.refl (.inr ⟨p, rfl, rp⟩) e⟩
    | sh d =>
      obtain ⟨v, ev, rv⟩ := F.sh i d hs
      exact ⟨v, ev, q v d O H g F Gr.refl (.inl rv) e⟩
    | ow d =>
      obtain ⟨p, ep, _, _, rp⟩ := F.ow i d hs
      exact ⟨_, ep, q _ d O H g F Gr.refl (.inr ⟨p, rfl, rp⟩) e⟩⟩

/-! ### two operands -/
/-- a value-level rule: r on what is read as d, e gives the s of op -/
def Ru2 (r : R2) (op : D → D → Option Sl) : Prop := ∀ (O : Addr → Prop) (H : Hp) (x y : V) (d e : D) (s : Sl) (Q : VK), OT O H → RdD O H d x → RdD O H e y → op d e = some s → (∀ v H', Res O H H' v s → Q v H') → r x y H Q
/-- .. whose answer never changes and lies in the same heap -/
def Ru2D (r : R2) (op : D → D → Option D) : Prop := ∀ (O : Addr → Prop) (H : Hp) (x y : V) (d e s : D) (Q : VK), OT O H → RdD O H d x → RdD O H e y → op d e = some s → (∀ v, Rp O H s v → Q v H) → r x y H Q
def kop (o : Option Sl) (g : Gam) (k : KS) : R := match o with
  | some s => k s g
  | none => .err
def kopD (o : Option D) (g : Gam) (k : KD) : R := match o with
  | some s => k s g
  | none => .err
def binF (op : D → D → Option Sl) (fa fb : DnD) : DnS := fun g k => fa g fun x g1 => fb g1 fun y g2 => kop (op x y) g2 k
def binD (op : D → D → Option D) (fa fb : DnD) : DnD := fun g k => fa g fun x g1 => fb g1 fun y g2 => kopD (op x y) g2 k
theorem tOp_F {r : R2} {op : D → D → Option Sl} {fa fb : DnD} (hv : Ru2 r op) (hm : (m || cb) = true) {σ : L2.St} {H : Hp} {Q : VK} (h : tG A W (ca && cb) (pF A) (binF op fa fb) σ H Q) :
    tOp r (tG A W ca (pM m) fa) (tG A W cb (pM m') fb) σ H Q := by
  obtain ⟨O, g, k, r0, F, e0, G, q⟩ := h
  refine ⟨O, g, _, r0, F, e0, G, fun x d O1 H1 g1 F1 gr1 p1 e1 => ?_⟩
  refine ⟨O1, g1, _, r0, F1, e1, G, fun y d2 O2 H2 g2 F2 gr2 p2 e2 => ?_⟩
  have p1' : RdD O2 H2 d x := pM_rd (σ := σ) (g := g2) (pM_keep hm p1 gr2)
  cases ho : op d d2 with
  | none => simp only [ho, kop] at e2; exact absurd e2.symm G.ne
  | some s =>
    simp only [ho, kop] at e2
    refine hv O2 H2 x y d d2 s Q F2.ot p1' (pM_rd p2) ho fun v H' rs => ?_
    obtain ⟨O', F', gr', pf⟩ := rs.pF F2
    exact q v s O' H' g2 F' (by simpa using (gr1.trans gr2).trans gr') pf e2
theorem tOp_D {r : R2} {op : D → D → Option D} {fa fb : DnD} (hv : Ru2D r op) (hm : (m || cb) = true) {σ : L2.St} {H : Hp} {Q : VK} (h : tG A W (ca && cb) pS (binD op fa fb) σ H Q) :
    tOp r (tG A W ca (pM m) fa) (tG A W cb (pM m') fb) σ H Q := by
  obtain ⟨O, g, k, r0, F, e0, G, q⟩ := h
  refine ⟨O, g, _, r0, F, e0, G, fun x d O1 H1 g1 F1 gr1 p1 e1 => ?_⟩
  refine ⟨O1, g1, _, r0, F1, e1, G, fun y d2 O2 H2 g2 F2 gr2 p2 e2 => ?_⟩
  have p1' : RdD O2 H2 d x := pM_rd (σ := σ) (g := g2) (pM_keep hm p1 gr2)
  cases ho : op d d2 with
  | none => simp only [ho, kopD] at e2; exact absurd e2.symm G.ne
  | some s =>
    simp only [ho, kopD] at e2
    exact hv O2 H2 x y d d2 s Q F2.ot p1' (pM_rd p2) ho fun v rs => q v s O2 H2 g2 F2 (gr1.trans gr2) rs e2
theorem df_op {o : Operator} {r : R2} {op : D → D → Option Sl} {fa fb : DnD} {pos : Pos} (ho : OpR X (binaryOp o) r) (hv : Ru2 r op) (ha : DM m X W A ca a fa) (hb : DM m' X W A cb b fb) (hm : (m || cb) = true := by rfl) :
    DF X W A (ca && cb) (.BinOp a o b pos) (binF op fa fb) := ⟨(pe_op ho ha.pe hb.pe).imp fun _ _ _ h => tOp_F hv hm h⟩
theorem ds_op {o : Operator} {r : R2} {op : D → D → Option D} {fa fb : DnD} {pos : Pos} (ho : OpR X (binaryOp o) r) (hv : Ru2D r op) (ha : DM m X W A ca a fa) (hb : DM m' X W A cb b fb) (hm : (m || cb) = true := by rfl) :
    DS X W A (ca && cb) (.BinOp a o b pos) (binD op fa fb) := ⟨(pe_op ho ha.pe hb.pe).imp fun _ _ _ h => tOp_D hv hm h⟩
theorem ds_cmp {o : CmpOp} {r : R2} {op : D → D → Option D} {fa fb : DnD} {pos : Pos} (ho : OpR X (compareOp o) r) (hv : Ru2D r op) (ha : DM m X W A ca a fa) (hb : DM m' X W A cb b fb) (hk : behindInMarks o b = false) (hm : (m || cb) = true := by rfl) :
    DS X W A (ca && cb) (.Compare a [o] [b] pos) (binD op fa fb) := ⟨(pe_cmpR ho ha.pe hb.pe hk).imp fun _ _ _ h => tOp_D hv hm h⟩
/-- a truth value of two data -/
def binB (op : D → D → Option Bool) (fa fb : DnD) : DnB := fun g k => fa g fun x g1 => fb g1 fun y g2 => match op x y with
  | some s => k s g2
  | none => .err
def opBD (op : D → D → Option Bool) : D → D → Option D := fun d e => (op d e).map .bool
/-- a comparison as a test -/
theorem db_cmp {o : CmpOp} {r : R2} {op : D → D → Option Bool} {fa fb : DnD} {pos : Pos} (ho : OpR X (compareOp o) r) (hv : Ru2D r (opBD op)) (ha : DM m X W A ca a fa) (hb : DM m' X W A cb b fb) (hk : behindInMarks o b = false) (hm : (m || cb) = true := by rfl) :
    DB X W A (ca && cb) (.Compare a [o] [b] pos) (binB op fa fb) := ⟨(pt_cmpR ho ha.pe hb.pe hk).imp fun σ H Q h => by
  obtain ⟨O, g, k, r0, F, e0, G, q⟩ := h
  refine ⟨O, g, _, r0, F, e0, G, fun x d O1 H1 g1 F1 gr1 p1 e1 => ?_⟩
  refine ⟨O1, g1, _, r0, F1, e1, G, fun y d2 O2 H2 g2 F2 gr2 p2 e2 => ?_⟩
  have p1' : RdD O2 H2 d x := pM_rd (σ := σ) (g := g2) (pM_keep hm p1 gr2)
  cases hop : op d d2 with
  | none => simp only [hop] at e2; exact absurd e2.symm G.ne
  | some s =>
    simp only [hop] at e2
    refine hv O2 H2 x y d d2 (.bool s) _ F2.ot p1' (pM_rd p2) (by unfold opBD; rw [hop]; rfl) fun v rs => ?_
    exact ⟨s, rs, q s O2 H2 g2 F2 (gr1.trans gr2) e2⟩⟩
/-- one operand -/
def unD (op : D → Option D) (fa : DnD) : DnD := fun g k => fa g fun x g1 => kopD (op x) g1 k
theorem ds_un {o : UnaryOp} {r : V → Hp → VK → Prop} {op : D → Option D} {fa : DnD} {pos : Pos} (ho : UnR X (unaryOp o) r) (hv : ∀ (O : Addr → Prop) (H : Hp) (x : V) (d s : D) (Q : VK), RdD O H d x → op d = some s → (∀ v, Rp O H s v → Q v H) → r x H Q)
    (ha : DM m X W A ca a fa) : DS X W A ca (.UnaryOp o a pos) (unD op fa) := ⟨(pe_un ho ha.pe).imp fun σ H Q h => by
  obtain ⟨O, g, k, r0, F, e0, G, q⟩ := h
  refine ⟨O, g, _, r0, F, e0, G, fun x d O1 H1 g1 F1 gr1 p1 e1 => ?_⟩
  cases hop : op d with
  | none => simp only [hop, kopD] at e1; exact absurd e1.symm G.ne
  | some s =>
    simp only [hop, kopD] at e1
    exact hv O1 H1 x d s Q (pM_rd p1) hop fun v rs => q v s O1 H1 g1 F1 gr1 rs e1⟩
/-- a[b] -/
theorem df_ix {r : R2} {op : D → D → Option Sl} {fa fb : DnD} {pos : Pos} (ho : IxR X r) (hv : Ru2 r op) (ha : DM m X W A ca a fa) (hb : DM m' X W A cb b fb) (hp : PlainIx b) (hm : (m || cb) = true := by rfl) :
    DF X W A (ca && cb) (.Subscript a b pos) (binF op fa fb) := ⟨(pe_ix ho ha.pe hb.pe hp).imp fun _ _ _ h => tOp_F hv hm h⟩
theorem ds_ix {r : R2} {op : D → D → Option D} {fa fb : DnD} {pos : Pos} (ho : IxR X r) (hv : Ru2D r op) (ha : DM m X W A ca a fa) (hb : DM m' X W A cb b fb) (hp : PlainIx b) (hm : (m || cb) = true := by rfl) :
    DS X W A (ca && cb) (.Subscript a b pos) (binD op fa fb) := ⟨(pe_ix ho ha.pe hb.pe hp).imp fun _ _ _ h => tOp_D hv hm h⟩

/-! ### tests -/
/-- a datum's truth -/
def truD : D → Option Bool
  | .none => some false
  | .bool b => some b
  | .int i => some (i != 0)
  | .str x => if x.length ≤ sizeLine then some ((x.length : Int) != 0) else none
  | .list ds => some (!ds.isEmpty)
  | .tuple ds => some (!ds.isEmpty)
  | .dict _ => none
theorem isE {O : Addr → Prop} {H : Hp} {ds : List D} {xs : List V} (h : RpAll O H ds xs) : (!ds.isEmpty) = !xs.isEmpty := by
  have := h.length
  cases ds <;> cases xs <;> simp_all
theorem tru_rd {K : PySem.W.Frag} {O : Addr → Prop} {H : Hp} {d : D} {v : V} {k : Bool} (h : RdD O H d v) (e : truD d = some k) : TruV K v H k := by
  cases d with
  | none => rcases h with h | ⟨p, _, h⟩; · cases h; cases e; exact rfl
            · exact h.elim
  | bool b => rcases h with h | ⟨p, _, h⟩; · cases h; cases e; exact rfl
              · exact h.elim
  | int b => rcases h with h | ⟨p, _, h⟩; · cases h; cases e; exact rfl
             · exact h.elim
  | str x =>
    rcases h with h | ⟨p, _, h⟩
    · cases h
      have e : (if x.length ≤ sizeLine then some ((x.length : Int) != 0) else none) = some k := e
      by_cases hx : x.length ≤ sizeLine
      · rw [if_pos hx] at e; cases e; exact ⟨hx, rfl⟩
      · rw [if_neg hx] at e; cases e
    · exact h.elim
  | list ds =>
    cases e
    rcases h with ⟨a, xs, rfl, n, r, q⟩ | ⟨p, rfl, xs, r, q⟩
    · exact .inl ⟨xs, .inl r, isE q⟩
    · exact .inl ⟨xs, .inl (.inl r), isE q⟩
  | tuple ds =>
    cases e
    rcases h with ⟨a, xs, rfl, n, r, q⟩ | ⟨p, rfl, h⟩
    · exact .inr (.inl ⟨xs, .inl r, isE q⟩)
    · exact h.elim
  | dict _ => cases e
def truB (fa : DnD) : DnB := fun g k => fa g fun x g1 => match truD x with
  | some b => k b g1
  | none => .err
/-- any expression as a test, by its truth -/
theorem db_tru {fa : DnD} (ha : DM m X W A ca a fa) (he : ∀ whole, isTrue a X.env whole = (do let v ← whole; standAt a.pos; holding [v] (truthy v)) := by intro _; rfl) : DB X W A ca a (truB fa) := ⟨(pt_truth ha.pe he).imp fun σ H Q h => by
  obtain ⟨O, g, k, r0, F, e0, G, q⟩ := h
  refine ⟨O, g, _, r0, F, e0, G, fun x d O1 H1 g1 F1 gr1 p1 e1 => ?_⟩
  cases hop : truD d with
  | none => simp only [hop] at e1; exact absurd e1.symm G.ne
  | some s =>
    simp only [hop] at e1
    exact ⟨s, tru_rd (pM_rd p1) hop, q s O1 H1 g1 F1 gr1 e1⟩⟩
def notB (f : DnB) : DnB := fun g k => f g fun b g' => k (!b) g'
def andB (fa fb : DnB) : DnB := fun g k => fa g fun b g1 => if b = true then fb g1 k else k false g1
def orB (fa fb : DnB) : DnB := fun g k => fa g fun b g1 => if b = true then k true g1 else fb g1 k
/-- a chain of and, or as a test (whatever its whole is) -/
structure DW (X : Cx) (W : WX) (A : Act) (c : Bool) (e : Expr) (f : DnB) : Prop where
  pw : PW X e (tGT A W c f)
theorem _root_.L2.PW.imp {t t' : TT} (h : PW X e t) (w : ∀ σ H Q, t' σ H Q → t σ H Q) : PW X e t' := ⟨fun wh pins s σ H Q I q => h.run wh pins s σ H Q I (w σ H Q q)⟩
theorem DW.bb {f : DnB} (h : DW X W A c e f) : DB X W A c e f := ⟨h.pw.pt⟩
theorem dw_and1 {fa : DnB} {pos : Pos} (ha : DB X W A ca a fa) : DW X W A ca (.BoolOp .And [a] pos) fa := ⟨pw_and1 ha.pt⟩
theorem dw_or1 {fa : DnB} {pos : Pos} (ha : DB X W A ca a fa) : DW X W A ca (.BoolOp .Or [a] pos) fa := ⟨pw_or1 ha.pt⟩
theorem tGT_and {fa fb : DnB} {σ : L2.St} {H : Hp} {Q : Bool → Hp → Prop} (h : tGT A W (ca && cb) (andB fa fb) σ H Q) : tAnd (tGT A W ca fa) (tGT A W cb fb) σ H Q := by
  obtain ⟨O, g, k, r0, F, e0, G, q⟩ := h
  refine ⟨O, g, _, r0, F, e0, G, fun d O1 H1 g1 F1 gr1 e1 => ?_⟩
  cases d with
  | true => exact iteT ⟨O1, g1, k, r0, F1, by simpa using e1, G, fun b O2 H2 g2 F2 gr2 e2 => q b O2 H2 g2 F2 (gr1.trans gr2) e2⟩
  | false => exact iteF (q false O1 H1 g1 F1 ⟨gr1.1, fun h => gr1.2 (Bool.and_eq_true_iff.mp h).1⟩ (by simpa using e1))
theorem tGT_or {fa fb : DnB} {σ : L2.St} {H : Hp} {Q : Bool → Hp → Prop} (h : tGT A W (ca && cb) (orB fa fb) σ H Q) : tOr (tGT A W ca fa) (tGT A W cb fb) σ H Q := by
  obtain ⟨O, g, k, r0, F, e0, G, q⟩ := h
  refine ⟨O, g, _, r0, F, e0, G, fun d O1 H1 g1 F1 gr1 e1 => ?_⟩
  cases d with
  | false => exact iteF ⟨O1, g1, k, r0, F1, by simpa using e1, G, fun b O2 H2 g2 F2 gr2 e2 => q b O2 H2 g2 F2 (gr1.trans gr2) e2⟩
  | true => exact iteT (q true O1 H1 g1 F1 ⟨gr1.1, fun h => gr1.2 (Bool.and_eq_true_iff.mp h).1⟩ (by simpa using e1))
theorem dw_and {rest : List Expr} {fa fb : DnB} {pos : Pos} (ha : DB X W A ca a fa) (hb : DW X W A cb (.BoolOp .And (b :: rest) pos) fb) : DW X W A (ca && cb) (.BoolOp .And (a :: b :: rest) pos) (andB fa fb) := ⟨(pw_and ha.pt hb.pw).imp fun _ _ _ h => tGT_and h⟩
theorem dw_or {rest : List Expr} {fa fb : DnB} {pos : Pos} (ha : DB X W A ca a fa) (hb : DW X W A cb (.BoolOp .Or (b :: rest) pos) fb) : DW X W A (ca && cb) (.BoolOp .Or (a :: b :: rest) pos) (orB fa fb) := ⟨(pw_or ha.pt hb.pw).imp fun _ _ _ h => tGT_or h⟩
theorem db_not {fa : DnB} {pos : Pos} (ha : DB X W A ca a fa) : DB X W A ca (.UnaryOp .Not a pos) (notB fa) := ⟨(pt_not ha.pt).imp fun σ H Q h => by
  obtain ⟨O, g, k, r0, F, e0, G, q⟩ := h
  exact ⟨O, g, _, r0, F, e0, G, fun d O1 H1 g1 F1 gr1 e1 => q (!d) O1 H1 g1 F1 gr1 e1⟩⟩
/-- not a as a value, by truth -/
def notV (fa : DnD) : DnD := fun g k => fa g fun x g1 => match truD x with
  | some b => k (.bool (!b)) g1
  | none => .err
theorem ds_not {fa : DnD} {pos : Pos} (ha : DM m X W A ca a fa) : DS X W A ca (.UnaryOp .Not a pos) (notV fa) := ⟨(pe_notT ha.pe).imp fun σ H Q h => by
  obtain ⟨O, g, k, r0, F, e0, G, q⟩ := h
  refine ⟨O, g, _, r0, F, e0, G, fun x d O1 H1 g1 F1 gr1 p1 e1 => ?_⟩
  cases hop : truD d with
  | none => simp only [hop] at e1; exact absurd e1.symm G.ne
  | some s =>
    simp only [hop] at e1
    exact ⟨s, tru_rd (pM_rd p1) hop, q _ (.bool (!s)) O1 H1 g1 F1 gr1 rfl e1⟩⟩
/-- and, or as values (the last one, or the first that decides) -/
def andV (fa fb : DnD) : DnD := fun g k => fa g fun x g1 => match truD x with
  | some true => fb g1 k
  | some false => k x g1
  | none => .err
def orV (fa fb : DnD) : DnD := fun g k => fa g fun x g1 => match truD x with
  | some true => k x g1
  | some false => fb g1 k
  | none => .err
theorem ds_one {o : BoolOp} {fa : DnD} {pos : Pos} (ha : DS X W A ca a fa) : DS X W A ca (.BoolOp o [a] pos) fa := ⟨pe_one ha.pe⟩
theorem ds_and {rest : List Expr} {fa fb : DnD} {pos : Pos} (ha : DS X W A ca a fa) (hb : DS X W A cb (.BoolOp .And (b :: rest) pos) fb) : DS X W A (ca && cb) (.BoolOp .And (a :: b :: rest) pos) (andV fa fb) := ⟨(pe_andT ha.pe hb.pe).imp fun σ H Q h => by
  obtain ⟨O, g, k, r0, F, e0, G, q⟩ := h
  refine ⟨O, g, _, r0, F, e0, G, fun x d O1 H1 g1 F1 gr1 p1 e1 => ?_⟩
  cases hop : truD d with
  | none => simp only [hop] at e1; exact absurd e1.symm G.ne
  | some s =>
    simp only [hop] at e1
    refine ⟨s, tru_rd (.inl p1) hop, ?_⟩
    cases s with
    | true => exact iteT ⟨O1, g1, k, r0, F1, e1, G, fun v b O2 H2 g2 F2 gr2 p2 e2 => q v b O2 H2 g2 F2 (gr1.trans gr2) p2 e2⟩
    | false => exact iteF (q x d O1 H1 g1 F1 ⟨gr1.1, fun h => gr1.2 (Bool.and_eq_true_iff.mp h).1⟩ p1 e1)⟩
theorem ds_or {rest : List Expr} {fa fb : DnD} {pos : Pos} (ha : DS X W A ca a fa) (hb : DS X W A cb (.BoolOp .Or (b :: rest) pos) fb) : DS X W A (ca && cb) (.BoolOp .Or (a :: b :: rest) pos) (orV fa fb) := ⟨(pe_orT ha.pe hb.pe).imp fun σ H Q h => by
  obtain ⟨O, g, k, r0, F, e0, G, q⟩ := h
  refine ⟨O, g, _, r0, F, e0, G, fun x d O1 H1 g1 F1 gr1 p1 e1 => ?_⟩
  cases hop : truD d with
  | none => simp only [hop] at e1; exact absurd e1.symm G.ne
  | some s =>
    simp only [hop] at e1
    refine ⟨s, tru_rd (.inl p1) hop, ?_⟩
    cases s with
    | false => exact iteF ⟨O1, g1, k, r0, F1, e1, G, fun v b O2 H2 g2 F2 gr2 p2 e2 => q v b O2 H2 g2 F2 (gr1.trans gr2) p2 e2⟩
    | true => exact iteT (q x d O1 H1 g1 F1 ⟨gr1.1, fun h => gr1.2 (Bool.and_eq_true_iff.mp h).1⟩ p1 e1)⟩
/-- a if t else b -/
def ifC {α : Type} (ft : DnB) (fa fb : Gam → (α → Gam → R) → R) : Gam → (α → Gam → R) → R := fun g k => ft g fun b g1 => if b = true then fa g1 k else fb g1 k
theorem tG_if {α : Type} {P : Pst α} {c' : Bool} {ft : DnB} {fa fb : Gam → (α → Gam → R) → R} {σ : L2.St} {H : Hp} {Q : VK} (h : tG A W (c && (ca && cb)) P (ifC ft fa fb) σ H Q) : tIf (tGT A W c ft) (tG A W ca P fa) (tG A W cb P fb) σ H Q := by
  obtain ⟨O, g, k, r0, F, e0, G, q⟩ := h
  refine ⟨O, g, _, r0, F, e0, G, fun d O1 H1 g1 F1 gr1 e1 => ?_⟩
  cases d with
  | true => exact iteT ⟨O1, g1, k, r0, F1, by simpa using e1, G, fun v b O2 H2 g2 F2 gr2 p2 e2 => q v b O2 H2 g2 F2 ⟨fun a o e n => (gr1.trans gr2).1 a o e n, fun h => by
    have h := Bool.and_eq_true_iff.mp h
    exact (gr1.2 h.1).trans (gr2.2 (Bool.and_eq_true_iff.mp h.2).1)⟩ p2 e2⟩
  | false => exact iteF ⟨O1, g1, k, r0, F1, by simpa using e1, G, fun v b O2 H2 g2 F2 gr2 p2 e2 => q v b O2 H2 g2 F2 ⟨fun a o e n => (gr1.trans gr2).1 a o e n, fun h => by
    have h := Bool.and_eq_true_iff.mp h
    exact (gr1.2 h.1).trans (gr2.2 (Bool.and_eq_true_iff.mp h.2).2)⟩ p2 e2⟩
theorem ds_if {t : Expr} {ft : DnB} {fa fb : DnD} {pos : Pos} (ht : DB X W A c t ft) (ha : DS X W A ca a fa) (hb : DS X W A cb b fb) : DS X W A (c && (ca && cb)) (.IfExp t a b pos) (ifC ft fa fb) := ⟨(pe_ifExp ht.pt ha.pe hb.pe).imp fun _ _ _ h => tG_if (c' := c) h⟩
theorem df_if {t : Expr} {ft : DnB} {fa fb : DnS} {pos : Pos} (ht : DB X W A c t ft) (ha : DF X W A ca a fa) (hb : DF X W A cb b fb) : DF X W A (c && (ca && cb)) (.IfExp t a b pos) (ifC ft fa fb) := ⟨(pe_ifExp ht.pt ha.pe hb.pe).imp fun _ _ _ h => tG_if (c' := c) h⟩

/-! ### lists of arguments; displays -/
def nilC : DnL := fun g k => k [] g
def consC (fa : DnD) (fs : DnL) : DnL := fun g k => fa g fun x g1 => fs g1 fun xs g2 => k (x :: xs) g2
theorem RdL.of : ∀ {O : Addr → Prop} {H : Hp} {ds : List D} {vs : List V}, RpAll O H ds vs → RdL O H ds vs
  | _, _, [], _, h => h
  | _, _, _ :: _, _, ⟨y, ys, e, q, r⟩ => ⟨y, ys, e, .inl q, RdL.of r⟩
theorem RdL.gr : ∀ {O O' : Addr → Prop} {H H' : Hp} {ds : List D} {vs : List V}, Gr true O H O' H' → RdL O H ds vs → RdL O' H' ds vs
  | _, _, _, _, [], _, _, h => h
  | _, _, _, _, _ :: _, _, gr, ⟨y, ys, e, q, r⟩ => ⟨y, ys, e, gr.rd q, RdL.gr gr r⟩
theorem pLM_rd {O : Addr → Prop} {H : Hp} {ds : List D} {vs : List V} (h : pLM m O H ds vs) : RdL O H ds vs := by
  cases m with
  | true => exact RdL.of h
  | false => exact h
theorem dl_nil : DL m X W A true [] nilC := ⟨pa_nil.imp fun σ H Q ⟨O, g, k, r, F, e, G, q⟩ => q [] [] O H g F Gr.refl (by cases m <;> rfl) rfl e⟩
/-- the first value holds through the others: it never changes, or these change nothing -/
theorem dl_cons {es : List Expr} {fa : DnD} {fs : DnL} (ha : DM m' X W A ca a fa) (hs : DL m X W A cb es fs) (hm : ((m && m') || (!m && (m' || cb))) = true := by rfl)
    (hst : starEach (a :: es) X.env = (false, eval a X.env) :: starEach es X.env := by rfl) : DL m X W A (ca && cb) (a :: es) (consC fa fs) := ⟨(pa_cons ha.pe hs.pa hst).imp fun σ H Q h => by
  obtain ⟨O, g, k, r0, F, e0, G, q⟩ := h
  refine ⟨O, g, _, r0, F, e0, G, fun x d O1 H1 g1 F1 gr1 p1 e1 => ?_⟩
  refine ⟨O1, g1, _, r0, F1, e1, G, fun xs ds O2 H2 g2 F2 gr2 p2 l2 e2 => ?_⟩
  refine q (x :: xs) (d :: ds) O2 H2 g2 F2 (gr1.trans gr2) ?_ (by rw [List.length_cons, List.length_cons, l2]) e2
  cases m with
  | true =>
    have : m' = true := by simpa using hm
    subst this
    exact ⟨x, xs, rfl, gr2.rp p1, p2⟩
  | false => exact ⟨x, xs, rfl, pM_rd (σ := σ) (g := g2) (pM_keep (by simpa using hm) p1 gr2), p2⟩⟩
def tupC (f : DnL) : DnD := fun g k => f g fun ds g' => k (.tuple ds) g'
def lstC (f : DnL) : DnS := fun g k => f g fun ds g' => k (.ow (.list ds)) g'
theorem ds_tup {es : List Expr} {f : DnL} {x1} {pos : Pos} (h : DL true X W A c es f) (hn : es.length ≤ 1000 := by decide) : DS X W A c (.Tuple es x1 pos) (tupC f) := ⟨(pe_tup h.pa).imp fun σ H Q hh => by
  obtain ⟨O, g, k, r0, F, e0, G, q⟩ := hh
  refine ⟨O, g, _, r0, F, e0, G, fun xs ds O1 H1 g1 F1 gr1 p1 l1 e1 => ?_⟩
  have p1 : RpAll O1 H1 ds xs := p1
  refine ⟨by rw [p1.length, l1]; exact Nat.le_of_lt (small1000 hn), fun p n => ?_⟩
  obtain ⟨O', F', gr', pf⟩ := (res_tup F1.ot n p1).pF F1
  exact q _ _ O' _ g1 F' (by simpa using gr1.trans gr') pf e1⟩
theorem df_lst {es : List Expr} {f : DnL} {pos : Pos} (h : DL true X W A c es f) (hn : es.length ≤ 1000 := by decide) : DF X W A c (.List es pos) (lstC f) := ⟨(pe_lst h.pa).imp fun σ H Q hh => by
  obtain ⟨O, g, k, r0, F, e0, G, q⟩ := hh
  refine ⟨O, g, _, r0, F, e0, G, fun xs ds O1 H1 g1 F1 gr1 p1 l1 e1 => ?_⟩
  have p1 : RpAll O1 H1 ds xs := p1
  refine ⟨by rw [p1.length, l1]; exact Nat.le_of_lt (small1000 hn), fun p n => ?_⟩
  obtain ⟨O', F', gr', pf⟩ := (res_lst n p1).pF F1
  exact q _ _ O' _ g1 F' (by simpa using gr1.trans gr') pf e1⟩
end
end Z

namespace Z
open PySem L2

section
variable {O : Addr → Prop} {H : Hp} {x : V} {K : PySem.W.Frag}
theorem rd_int {i : Int} (h : RdD O H (.int i) x) : x = .int i := h.elim id fun ⟨_, _, h⟩ => h.elim
theorem rd_str {i : Str} (h : RdD O H (.str i) x) : x = .str i := h.elim id fun ⟨_, _, h⟩ => h.elim
theorem rd_bl {i : Bool} (h : RdD O H (.bool i) x) : x = .bl i := h.elim id fun ⟨_, _, h⟩ => h.elim
theorem rd_non (h : RdD O H .none x) : x = .non := h.elim id fun ⟨_, _, h⟩ => h.elim
theorem rd_tup {ds : List D} (h : RdD O H (.tuple ds) x) : ∃ a xs, x = .ref a ∧ SqT K H a xs ∧ RpAll O H ds xs ∧ ¬ O a ∧ Rd H a (.tup xs) := by
  rcases h with ⟨a, xs, e, n, r, q⟩ | ⟨_, _, h⟩
  · exact ⟨a, xs, e, .inl r, q, n, r⟩
  · exact h.elim
theorem rd_lst {ds : List D} (h : RdD O H (.list ds) x) : ∃ a xs, x = .ref a ∧ SqL K H a xs ∧ RpAll O H ds xs ∧ Rd H a (.lst xs) := by
  rcases h with ⟨a, xs, e, n, r, q⟩ | ⟨p, e, xs, r, q⟩
  · exact ⟨a, xs, e, .inl r, q, r⟩
  · exact ⟨p, xs, e, .inl (.inl r), q, .inl r⟩
mutual
theorem Rp.dp : ∀ (d : D) (v : V), Rp O H d v → d.hasDict = false → Dp K H v d
  | .none, _, h, _ => by cases (show _ = _ from h); exact .non
  | .bool _, _, h, _ => by cases (show _ = _ from h); exact .bl _
  | .int _, _, h, _ => by cases (show _ = _ from h); exact .int _
  | .str _, _, h, _ => by cases (show _ = _ from h); exact .str _
  | .list ds, _, ⟨a, xs, e, n, r, q⟩, hd => by subst e; exact .lst (.inl r) (RpAll.dp ds xs q (by simpa [PyData.hasDict] using hd))
  | .tuple ds, _, ⟨a, xs, e, n, r, q⟩, hd => by subst e; exact .tup (.inl r) (RpAll.dp ds xs q (by simpa [PyData.hasDict] using hd))
  | .dict _, _, _, hd => by simp [PyData.hasDict] at hd
theorem RpAll.dp : ∀ (ds : List D) (xs : List V), RpAll O H ds xs → PyData.hasDictAll ds = false → DpAll K H xs ds
  | [], _, h, _ => by cases (show _ = _ from h); exact .nil
  | d :: ds, _, ⟨y, ys, e, q, r⟩, hd => by
    simp only [PyData.hasDictAll, Bool.or_eq_false_iff] at hd
    subst e; exact .cons (Rp.dp d y q hd.1) (RpAll.dp ds ys r hd.2)
end
theorem RdD.dp {d : D} (h : RdD O H d x) (hd : d.hasDict = false) : Dp K H x d := by
  rcases h with h | ⟨p, e, h⟩
  · exact Rp.dp d x h hd
  · cases d with
    | list ds =>
      obtain ⟨xs, r, q⟩ := h
      subst e; exact .lst (.inl (.inl r)) (RpAll.dp ds xs q (by simpa [PyData.hasDict] using hd))
    | dict kvs => simp [PyData.hasDict] at hd
    | _ => exact h.elim
end

/-! ### + -/
def addS : D → D → Option Sl
  | .int i, .int j => some (.sh (.int (i + j)))
  | .str x, .str y => if x.length + y.length ≤ sizeLine then some (.sh (.str (x ++ y))) else none
  | .tuple a, .tuple b => if a.length + b.length ≤ sizeLine then some (.sh (.tuple (a ++ b))) else none
  | .list a, .list b => if a.length + b.length ≤ sizeLine then some (.ow (.list (a ++ b))) else none
  | _, _ => none
/-- two lists, read -/
def rCatR : R2 := fun x y H Q => ∃ l b xs zs, x = .ref l ∧ y = .ref b ∧ Rd H l (.lst xs) ∧ Rd H b (.lst zs) ∧ xs.length + zs.length ≤ sizeLine ∧ ∀ p, H p = none → Q (.ref p) (upd H p (.lst (xs ++ zs)))
section
variable {X : Cx} {K : PySem.W.Frag}
theorem op_catR : OpR X (binaryOp .Add) rCatR := by
  intro pins s σ H x y v u Q I rx ry h
  obtain ⟨l, b, xs, zs, rfl, rfl, hl, hb, hz, q⟩ := h
  cases rx
  cases ry
  obtain ⟨z1, its, n1, r1, e1⟩ : ObjOk X.prog X.w H s.heap l (.lst xs) := hl.ok I.hok
  obtain ⟨z2, its2, n2, r2, e2⟩ : ObjOk X.prog X.w H s.heap b (.lst zs) := hb.ok I.hok
  have l1 := r1.length
  have l2 := r2.length
  refine PySem.P.add_list e1 e2 ?_ (by rw [List.size_toArray, List.size_toArray]; omega)
  have ea : its.toArray ++ its2.toArray = (its ++ its2).toArray := by simp
  rw [ea]
  exact ⟨.ref _, _, I.lnew (t' := s.toks) (r1.append r2) (by rw [List.length_append]; omega), rfl, q _ I.fresh⟩
theorem op_addS : OpR X (binaryOp .Add) (fun x y H Q => (rI0 (fun i j => .int (i + j)) x y H Q ∨ (∃ i j, x = .str i ∧ y = .str j ∧ i.length + j.length ≤ sizeLine ∧ Q (.str (i ++ j)) H)) ∨ (rCatA X.K x y H Q ∨ rCatR x y H Q)) :=
  (op_add.or op_add_str).or (op_catA.or op_catR)
theorem ru_addS : Ru2 (fun x y H Q => (rI0 (fun i j => .int (i + j)) x y H Q ∨ (∃ i j, x = .str i ∧ y = .str j ∧ i.length + j.length ≤ sizeLine ∧ Q (.str (i ++ j)) H)) ∨ (rCatA X.K x y H Q ∨ rCatR x y H Q)) addS := by
  intro O H x y d e s Q ot rx ry ho hQ
  unfold addS at ho
  split at ho
  · cases ho
    exact .inl (.inl ⟨_, _, rd_int rx, rd_int ry, hQ _ _ (res_sh rfl)⟩)
  · split at ho
    · rename_i hz
      cases ho
      exact .inl (.inr ⟨_, _, rd_str rx, rd_str ry, hz, hQ _ _ (res_sh rfl)⟩)
    · cases ho
  · split at ho
    · rename_i hz
      cases ho
      obtain ⟨a, xs, ea, sa, qa, na, ra⟩ := rd_tup rx
      obtain ⟨b, ys, eb, sb, qb, nb, rb⟩ := rd_tup ry
      refine .inr (.inl ⟨a, b, xs, ys, ea, eb, sa, sb, by rw [qa.length, qb.length]; exact hz, fun h => ?_, fun _ h => ?_, fun _ _ p n => ?_⟩)
      · subst h
        have h0 := qa.length
        rename_i ds es
        cases ds with
        | nil => exact hQ _ _ (res_sh ⟨b, ys, rfl, nb, rb, qb⟩)
        | cons _ _ => simp at h0
      · subst h
        have h0 := qb.length
        rename_i ds es _
        cases es with
        | nil => exact hQ _ _ (res_sh (by rw [List.append_nil]; exact ⟨a, xs, rfl, na, ra, qa⟩))
        | cons _ _ => simp at h0
      · exact hQ _ _ (res_tup ot n (qa.append qb))
    · cases ho
  · split at ho
    · rename_i hz
      cases ho
      obtain ⟨a, xs, ea, sa, qa, ra⟩ := rd_lst (K := X.K) rx
      obtain ⟨b, ys, eb, sb, qb, rb⟩ := rd_lst (K := X.K) ry
      exact .inr (.inr ⟨a, b, xs, ys, ea, eb, ra, rb, by rw [qa.length, qb.length]; exact hz, fun p n => hQ _ _ (res_lst n (qa.append qb))⟩)
    · cases ho
  · cases ho

/-! ### other arithmetic: of whole numbers -/
def iiD (c : Int → Int → Bool) (f : Int → Int → Int) : D → D → Option D
  | .int i, .int j => if c i j = true then some (.int (f i j)) else none
  | _, _ => none
theorem ru_ii {c : Int → Int → Bool} {C : Int → Int → Prop} {f : Int → Int → Int} (h : ∀ i j, c i j = true → C i j) : Ru2D (rI C fun i j => .int (f i j)) (iiD c f) := by
  intro O H x y d e s Q ot rx ry ho hQ
  unfold iiD at ho
  split at ho
  · split at ho
    · rename_i hc
      cases ho
      exact ⟨_, _, rd_int rx, rd_int ry, h _ _ hc, hQ _ rfl⟩
    · cases ho
  · cases ho
theorem ru_ii0 {f : Int → Int → Int} : Ru2D (rI0 fun i j => .int (f i j)) (iiD (fun _ _ => true) f) := by
  intro O H x y d e s Q ot rx ry ho hQ
  unfold iiD at ho
  split at ho
  · rw [if_pos rfl] at ho
    cases ho
    exact ⟨_, _, rd_int rx, rd_int ry, hQ _ rfl⟩
  · cases ho
abbrev subD := iiD (fun _ _ => true) fun i j => i - j
def cMul (i j : Int) : Bool := decide (-(2 ^ 64) < i ∧ i < 2 ^ 64) || decide (-(2 ^ 64) < j ∧ j < 2 ^ 64)
abbrev mulD := iiD cMul fun i j => i * j
abbrev fdvD := iiD (fun _ j => decide (0 < j ∧ j < 1073741824)) fun i j => i / j
abbrev modD := iiD (fun _ j => decide (0 < j)) fun i j => i % j
abbrev powD := iiD (fun i j => decide (0 ≤ j ∧ j ≤ 1000 ∧ i.natAbs < 2 ^ 64)) fun i j => i ^ j.toNat
theorem ru_sub : Ru2D (rI0 fun i j => .int (i - j)) subD := ru_ii0
theorem ru_mul : Ru2D (rI CMul fun i j => .int (i * j)) mulD := ru_ii fun i j h => by
  unfold cMul at h
  rcases Bool.or_eq_true_iff.mp h with h | h
  · exact .inl (of_decide_eq_true h)
  · exact .inr (of_decide_eq_true h)
theorem ru_fdv : Ru2D (rI CDiv fun i j => .int (i / j)) fdvD := ru_ii fun i j h => of_decide_eq_true (p := 0 < j ∧ j < 1073741824) h
theorem ru_mod : Ru2D (rI (fun _ j => 0 < j) fun i j => .int (i % j)) modD := ru_ii fun i j h => of_decide_eq_true h
theorem ru_pow : Ru2D (rI CPow fun i j => .int (i ^ j.toNat)) powD := ru_ii fun i j h => by
  have h := of_decide_eq_true h
  exact ⟨h.1, by omega, h.2.2⟩
def negD : D → Option D
  | .int i => some (.int (-i))
  | _ => none
theorem ru_neg : ∀ (O : Addr → Prop) (H : Hp) (x : V) (d s : D) (Q : VK), RdD O H d x → negD d = some s → (∀ v, Rp O H s v → Q v H) → rU (fun i => .int (-i)) x H Q := by
  intro O H x d s Q rx ho hQ
  unfold negD at ho
  split at ho
  · cases ho; exact ⟨_, rd_int rx, hQ _ rfl⟩
  · cases ho

/-! ### order of whole numbers -/
def iiB (f : Int → Int → Bool) : D → D → Option Bool
  | .int i, .int j => some (f i j)
  | _, _ => none
theorem ru_iiB {f : Int → Int → Bool} : Ru2D (rI0 fun i j => .bl (f i j)) (opBD (iiB f)) := by
  intro O H x y d e s Q ot rx ry ho hQ
  unfold opBD iiB at ho
  split at ho
  · cases ho
    exact ⟨_, _, rd_int rx, rd_int ry, hQ _ rfl⟩
  · cases ho
abbrev ltB := iiB fun i j => decide (i < j)
abbrev leB := iiB fun i j => decide (i ≤ j)
abbrev gtB := iiB fun i j => decide (j < i)
abbrev geB := iiB fun i j => decide (j ≤ i)

/-! ### == and != of data; in, not in; is -/
/-- data that may be compared -/
def cmpOk (d : D) : Bool := SeqAt.shaped d
theorem cmpOk_dict {d : D} (h : cmpOk d = true) : d.hasDict = false := PyData.hasDict_of_canLay d (SeqAt.canLay_of_shaped h)
def eqB (d e : D) : Option Bool := if (cmpOk d && cmpOk e) = true then some (PyData.eqv d e) else none
def neB (d e : D) : Option Bool := if (cmpOk d && cmpOk e) = true then some (!PyData.eqv d e) else none
theorem ru_eq : Ru2D (rEqD K) (opBD eqB) := by
  intro O H x y d e s Q ot rx ry ho hQ
  unfold opBD eqB at ho
  split at ho
  · rename_i hc
    obtain ⟨h1, h2⟩ := Bool.and_eq_true_iff.mp hc
    cases ho
    exact ⟨d, e, rx.dp (cmpOk_dict h1), ry.dp (cmpOk_dict h2), h1, h2, hQ _ rfl⟩
  · cases ho
theorem ru_ne : Ru2D (rNeD K) (opBD neB) := by
  intro O H x y d e s Q ot rx ry ho hQ
  unfold opBD neB at ho
  split at ho
  · rename_i hc
    obtain ⟨h1, h2⟩ := Bool.and_eq_true_iff.mp hc
    cases ho
    exact ⟨d, e, rx.dp (cmpOk_dict h1), ry.dp (cmpOk_dict h2), h1, h2, hQ _ rfl⟩
  · cases ho
/-- x is None, x is not None: the right one written -/
def isNB (d : D) (_ : D) : Option Bool := match d with
  | .none => some true
  | _ => some false
def noNB (d : D) (_ : D) : Option Bool := match d with
  | .none => some false
  | _ => some true
def nonB : D → Bool
  | .none => true
  | _ => false
theorem rd_isN {O : Addr → Prop} {H : Hp} {x : V} {d : D} (h : RdD O H d x) : decide (x = .non) = nonB d := by
  cases d with
  | none => rw [rd_non h]; rfl
  | int i => rw [rd_int h]; rfl
  | str i => rw [rd_str h]; rfl
  | bool i => rw [rd_bl h]; rfl
  | list i => rcases h with ⟨a, xs, e, _⟩ | ⟨p, e, _⟩ <;> (rw [e]; rfl)
  | tuple i => rcases h with ⟨a, xs, e, _⟩ | ⟨p, e, _⟩ <;> (rw [e]; rfl)
  | dict i => rcases h with ⟨a, xs, e, _⟩ | ⟨p, e, _⟩ <;> (rw [e]; rfl)
theorem ru_isN : Ru2D (fun x y H Q => y = .non ∧ Q (.bl (decide (x = .non))) H) (opBD fun d e => match e with | .none => isNB d e | _ => none) := by
  intro O H x y d e s Q ot rx ry ho hQ
  unfold opBD at ho
  cases e with
  | none =>
    refine ⟨rd_non ry, hQ _ ?_⟩
    rw [rd_isN rx]
    cases d <;> cases ho <;> rfl
  | _ => cases ho
theorem ru_noN : Ru2D (fun x y H Q => y = .non ∧ Q (.bl (!decide (x = .non))) H) (opBD fun d e => match e with | .none => noNB d e | _ => none) := by
  intro O H x y d e s Q ot rx ry ho hQ
  unfold opBD at ho
  cases e with
  | none =>
    refine ⟨rd_non ry, hQ _ ?_⟩
    rw [rd_isN rx]
    cases d <;> cases ho <;> rfl
  | _ => cases ho
end
end Z

namespace Z
open PySem L2

/-! ### statements -/
/-- what is wanted of the answer of a block that begins at O, H -/
structure Eo (A : Act) (W : WX) (O : Addr → Prop) (H : Hp) (r : R) (D : Ends) : Prop where
  go : Go A W r
  rt : ∀ (s : Sl) (g : Gam), r = .ret s g → ∀ (v : V) (σ : L2.St) (O' : Addr → Prop) (H' : Hp), FI A O' σ H' g → pF A O' H' σ g v s → D.rt v H'
  bk : ∀ (g : Gam), r = .brk g → ∀ (σ : L2.St) (O' : Addr → Prop) (H' : Hp), FI A O' σ H' g → Gr false O H O' H' → D.bk σ H'
  ct : ∀ (g : Gam), r = .ct g → ∀ (σ : L2.St) (O' : Addr → Prop) (H' : Hp), FI A O' σ H' g → Gr false O H O' H' → D.ct σ H'
def tST (A : Act) (W : WX) (f : DnT) : TS := fun D σ H =>
  ∃ (O : Addr → Prop) (g : Gam) (k : Gam → R) (r : R), FI A O σ H g ∧ f g k = r ∧ Eo A W O H r D ∧
    ∀ (σ' : L2.St) (O' : Addr → Prop) (H' : Hp) (g' : Gam), FI A O' σ' H' g' → Gr false O H O' H' → k g' = r → D.nx σ' H'
structure DT (X : Cx) (W : WX) (A : Act) (st : Stmt) (f : DnT) : Prop where
  ps : PS X st (tST A W f)
structure DTs (X : Cx) (W : WX) (A : Act) (st : List Stmt) (f : DnT) : Prop where
  ps : PSs X st (tST A W f)

section
variable {X : Cx} {W : WX} {A : Act} {c ca cb m m' : Bool} {e a b : Expr} {O O1 : Addr → Prop} {H H1 : Hp} {r : R} {E : Ends}
theorem _root_.L2.PS.imp {st : Stmt} {t t' : TS} (h : PS X st t) (w : ∀ D σ H, t' D σ H → t D σ H) : PS X st t' := ⟨fun pins s σ H D I q => h.run pins s σ H D I (w D σ H q)⟩
theorem _root_.L2.PSs.imp {st : List Stmt} {t t' : TS} (h : PSs X st t) (w : ∀ D σ H, t' D σ H → t D σ H) : PSs X st t' := ⟨fun pins s σ H D I q => h.run pins s σ H D I (w D σ H q)⟩
theorem Eo.on (e : Eo A W O H r E) (gr : Gr c O H O1 H1) : Eo A W O1 H1 r E :=
  ⟨e.go, e.rt, fun g q σ O' H' F gr' => e.bk g q σ O' H' F (gr.weak.trans gr'), fun g q σ O' H' F gr' => e.ct g q σ O' H' F (gr.weak.trans gr')⟩
def seqT (f1 f2 : DnT) : DnT := fun g k => f1 g fun g' => f2 g' k
theorem dts_cons {st : Stmt} {rest : List Stmt} {f1 f2 : DnT} (h1 : DT X W A st f1) (h2 : DTs X W A rest f2) : DTs X W A (st :: rest) (seqT f1 f2) := ⟨(pss_cons h1.ps h2.ps).imp fun D σ H ⟨O, g, k, r, F, e, Eo', q⟩ => by
  refine ⟨O, g, _, r, F, e, ⟨Eo'.go, Eo'.rt, Eo'.bk, Eo'.ct⟩, fun σ1 O1 H1 g1 F1 gr1 e1 => ?_⟩
  exact ⟨O1, g1, k, r, F1, e1, Eo'.on gr1, fun σ2 O2 H2 g2 F2 gr2 e2 => q σ2 O2 H2 g2 F2 (gr1.trans gr2) e2⟩⟩
theorem dts_one {st : Stmt} {f1 : DnT} (h1 : DT X W A st f1) : DTs X W A [st] f1 := ⟨pss_one h1.ps⟩
def skipT : DnT := fun g k => k g
theorem dts_nil : DTs X W A [] skipT := ⟨pss_nil.imp fun D σ H ⟨O, g, k, r, F, e, Eo', q⟩ => q σ O H g F Gr.refl e⟩
theorem dt_pass {pos : Pos} : DT X W A (.Pass pos) skipT := ⟨ps_pass.imp fun D σ H ⟨O, g, k, r, F, e, Eo', q⟩ => q σ O H g F Gr.refl e⟩
def brkT : DnT := fun g _ => .brk g
def contT : DnT := fun g _ => .ct g
theorem dt_brk {pos : Pos} : DT X W A (.Break pos) brkT := ⟨ps_break.imp fun D σ H ⟨O, g, k, r, F, e, Eo', q⟩ => Eo'.bk g e.symm σ O H F Gr.refl⟩
theorem dt_cont {pos : Pos} : DT X W A (.Continue pos) contT := ⟨ps_continue.imp fun D σ H ⟨O, g, k, r, F, e, Eo', q⟩ => Eo'.ct g e.symm σ O H F Gr.refl⟩
/-- return e -/
def retT (f : DnS) : DnT := fun g _ => f g fun s g' => .ret s g'
theorem dt_ret {f : DnS} {pos : Pos} (h : DF X W A c e f) : DT X W A (.Return (some e) pos) (retT f) := ⟨(ps_ret h.pe).imp fun D σ H ⟨O, g, k, r, F, e, Eo', q⟩ =>
  ⟨O, g, _, r, F, e, Eo'.go, fun v s O1 H1 g1 F1 gr1 p1 e1 => Eo'.rt s g1 e1.symm v σ O1 H1 F1 p1⟩⟩
/-- return x, x an own list: it goes out as it is -/
def retV (i : Nat) : DnT := fun g _ => match g[i]? with
  | some (.ow d) => .ret (.ow d) (g.set i .no)
  | some (.sh d) => .ret (.sh d) g
  | _ => .err
theorem dt_retV {i : Nat} {pos : Pos} (h : PE X e (tVar i)) : DT X W A (.Return (some e) pos) (retV i) := ⟨(ps_ret h).imp fun D σ H ⟨O, g, k, r, F, e, Eo', q⟩ => by
  unfold retV at e
  cases hs : g[i]? with
  | none => rw [hs] at e; exact absurd e.symm Eo'.go.ne
  | some s =>
    rw [hs] at e
    cases s with
    | no => exact absurd e.symm Eo'.go.ne
    | rf d => exact absurd e.symm Eo'.go.ne
    | sh d =>
      obtain ⟨v, ev, rv⟩ := F.sh i d hs
      exact ⟨v, ev, Eo'.rt _ g e.symm v σ O H F rv⟩
    | ow d =>
      obtain ⟨p, ep, ho, n, ro⟩ := F.ow i d hs
      have hi := F.lt hs
      have back : ∀ (j : Nat) (s : Sl), (g.set i .no)[j]? = some s → s = .no ∨ g[j]? = some s := fun j s hj => by
        rw [setIs] at hj
        split at hj
        · cases hj; exact .inl rfl
        · exact .inr hj
      refine ⟨_, ep, Eo'.rt _ _ e.symm _ σ O H (F.forget (by simp) back) ⟨p, rfl, ho, n, ro, fun j s hj o z => ?_⟩⟩
      rw [setIs] at hj
      split at hj
      · cases hj; cases o
      · rename_i hij
        exact hij (F.inj i j _ s p hs hj rfl o ep z)⟩
def retN : DnT := fun g _ => .ret (.sh .none) g
theorem dt_retN {pos : Pos} : DT X W A (.Return none pos) retN := ⟨ps_retN.imp fun D σ H ⟨O, g, k, r, F, e, Eo', q⟩ => Eo'.rt _ g e.symm .non σ O H F rfl⟩
/-- an expression whose value goes -/
def dropT {α : Type} (f : Gam → (α → Gam → R) → R) : DnT := fun g k => f g fun _ g' => k g'
theorem tG_drop {α : Type} {P : Pst α} {f : Gam → (α → Gam → R) → R} {D : Ends} {σ : L2.St} {H : Hp} (h : tST A W (dropT f) D σ H) : tG A W c P f σ H fun _ H1 => D.nx σ H1 := by
  obtain ⟨O, g, k, r, F, e, Eo', q⟩ := h
  exact ⟨O, g, _, r, F, e, Eo'.go, fun v s O1 H1 g1 F1 gr1 p1 e1 => q σ O1 H1 g1 F1 gr1.weak e1⟩
theorem dt_expr {f : DnD} {pos : Pos} (h : DM m X W A c e f) (hs : swapsWith e none pos.line X.env = pure false := by rfl) : DT X W A (.Expr e pos) (dropT f) := ⟨(ps_expr h.pe hs).imp fun _ _ _ h => tG_drop h⟩
theorem dt_doc {x j pos pos'} : DT X W A (.Expr (.Constant (.str x) j pos) pos') skipT := ⟨ps_doc.imp fun D σ H ⟨O, g, k, r, F, e, Eo', q⟩ => q σ O H g F Gr.refl e⟩
def iffT (ft : DnB) (f1 f2 : DnT) : DnT := fun g k => ft g fun b g1 => if b = true then f1 g1 k else f2 g1 k
theorem dt_if {t : Expr} {b1 b2 : List Stmt} {ft : DnB} {f1 f2 : DnT} {pos : Pos} (ht : DB X W A c t ft) (h1 : DTs X W A b1 f1) (h2 : DTs X W A b2 f2) : DT X W A (.If t b1 b2 pos) (iffT ft f1 f2) := ⟨(ps_if ht.pt h1.ps h2.ps).imp fun D σ H ⟨O, g, k, r, F, e, Eo', q⟩ => by
  refine ⟨O, g, _, r, F, e, Eo'.go, fun d O1 H1 g1 F1 gr1 e1 => ?_⟩
  cases d with
  | true => exact iteT ⟨O1, g1, k, r, F1, by simpa using e1, Eo'.on gr1, fun σ2 O2 H2 g2 F2 gr2 e2 => q σ2 O2 H2 g2 F2 (gr1.weak.trans gr2) e2⟩
  | false => exact iteF ⟨O1, g1, k, r, F1, by simpa using e1, Eo'.on gr1, fun σ2 O2 H2 g2 F2 gr2 e2 => q σ2 O2 H2 g2 F2 (gr1.weak.trans gr2) e2⟩⟩

/-! ### stores -/
/-- slot i may be stored -/
def stC (i : Nat) (s : Sl) (g : Gam) (k : Gam → R) : R := match g[i]? with
  | none => .err
  | some (.rf _) => .err
  | some _ => match s with
    | .sh d => k (g.set i (.sh d))
    | .ow d => k (g.set i (.ow d))
    | _ => .err
def asgT (i : Nat) (f : DnS) : DnT := fun g k => f g fun s g' => stC i s g' k
theorem store_pF {i : Nat} {O : Addr → Prop} {H : Hp} {σ : L2.St} {g : Gam} {k : Gam → R} {v : V} {s : Sl} {r : R} (F : FI A O σ H g) (p : pF A O H σ g v s) (e : stC i s g k = r) (ne : r ≠ .err) :
    ∃ g', k g' = r ∧ FI A O (σ.set i (some v)) H g' := by
  unfold stC at e
  split at e
  · exact absurd e.symm ne
  · exact absurd e.symm ne
  · rename_i s0 hn hs
    have hi := F.lt hs
    cases s with
    | no => exact absurd e.symm ne
    | rf d => exact absurd e.symm ne
    | sh d => exact ⟨_, e, F.setSh hi p⟩
    | ow d =>
      obtain ⟨q, rfl, ho, n, ro, ns⟩ := p
      exact ⟨_, e, F.setOw hi ho n ro ns⟩
/-- name = e -/
theorem dt_asg {i : Nat} {st : Stmt} {t : TE} {f : DnS} (h : PS X st (tAsg t (gName i))) (w : ∀ σ H Q, tG A W c (pF A) f σ H Q → t σ H Q) : DT X W A st (asgT i f) := ⟨h.imp fun D σ H ⟨O, g, k, r, F, e, Eo', q⟩ => by
  refine w σ H _ ⟨O, g, _, r, F, e, Eo'.go, fun v s O1 H1 g1 F1 gr1 p1 e1 => ?_⟩
  obtain ⟨g2, e2, F2⟩ := store_pF F1 p1 e1 Eo'.go.ne
  exact q _ O1 H1 g2 F2 gr1.weak e2⟩
theorem dt_set {i : Nat} {x : Str} {f : DnS} {pos pos' : Pos} (hN : X.N.Nodup) (hi : X.N[i]? = some x) (hx : Loc X.env.scope x) (he : DF X W A c e f) (hs : swapsWith e (some (.Name x pos')) pos.line X.env = pure false := by rfl) (hf : X.fn x = true ∨ X.env.scope.names.lookup x = some .local := by first | exact .inl rfl | exact .inr rfl | assumption) :
    DT X W A (.Assign [.Name x pos'] e pos) (asgT i f) := dt_asg (ps_set hN hi hx he.pe hs hf) fun _ _ _ h => h

/-! ### targets: names, and tuples of targets -/
abbrev DnG := D → Gam → (Gam → R) → R
/-- all slots but these are as they were -/
def SmO (is : List Nat) (σ σ' : L2.St) : Prop := σ'.length = σ.length ∧ ∀ j : Nat, j ∉ is → σ'[j]? = σ[j]?
theorem SmO.refl {is : List Nat} {σ : L2.St} : SmO is σ σ := ⟨rfl, fun _ _ => rfl⟩
theorem SmO.trans {is is' : List Nat} {σ σ1 σ2 : L2.St} (a : SmO is σ σ1) (b : SmO is' σ1 σ2) : SmO (is ++ is') σ σ2 :=
  ⟨b.1.trans a.1, fun j h => (b.2 j fun z => h (List.mem_append_right _ z)).trans (a.2 j fun z => h (List.mem_append_left _ z))⟩
def tGG (A : Act) (is : List Nat) (f : DnG) : TG := fun v σ H Q => ∃ (O : Addr → Prop) (g : Gam) (k : Gam → R) (r : R) (d : D), FI A O σ H g ∧ Rp O H d v ∧ f d g k = r ∧ r ≠ .err ∧ ∀ (σ' : L2.St) (g' : Gam), FI A O σ' H g' → SmO is σ σ' → k g' = r → Q σ' H
structure DG (X : Cx) (A : Act) (is : List Nat) (e : Expr) (f : DnG) : Prop where
  pg : PG X e (tGG A is f)
theorem _root_.L2.PG.imp {e : Expr} {t t' : TG} (h : PG X e t) (w : ∀ v σ H Q, t' v σ H Q → t v σ H Q) : PG X e t' := ⟨fun pins s σ H v u Q I r q => h.run pins s σ H v u Q I r (w v σ H Q q)⟩
def nameG (i : Nat) : DnG := fun d g k => stC i (.sh d) g k
theorem dg_name {i : Nat} {x : Str} {pos : Pos} (hN : X.N.Nodup) (hi : X.N[i]? = some x) (hx : Loc X.env.scope x) (hf : X.fn x = true ∨ X.env.scope.names.lookup x = some .local := by first | exact .inl rfl | exact .inr rfl | assumption) : DG X A [i] (.Name x pos) (nameG i) :=
  ⟨(pg_name hN hi hx hf).imp fun v σ H Q ⟨O, g, k, r, d, F, rp, e, ne, q⟩ => by
    obtain ⟨g', e', F'⟩ := store_pF (s := .sh d) F rp e ne
    exact q _ g' F' ⟨List.length_set, fun j hj => by rw [setV, if_neg (fun z => hj (by rw [z]; exact List.mem_singleton_self _))]⟩ e'⟩
abbrev DnGs := List D → Gam → (Gam → R) → R
def tGGs (A : Act) (is : List Nat) (f : DnGs) : TGs := fun vs σ H Q => ∃ (O : Addr → Prop) (g : Gam) (k : Gam → R) (r : R) (ds : List D), FI A O σ H g ∧ RpAll O H ds vs ∧ f ds g k = r ∧ r ≠ .err ∧ ∀ (σ' : L2.St) (g' : Gam), FI A O σ' H g' → SmO is σ σ' → k g' = r → Q σ' H
structure DGs (X : Cx) (A : Act) (is : List Nat) (es : List Expr) (f : DnGs) : Prop where
  pg : PGs X es (tGGs A is f)
theorem _root_.L2.PGs.imp {e : List Expr} {t t' : TGs} (h : PGs X e t) (w : ∀ v σ H Q, t' v σ H Q → t v σ H Q) : PGs X e t' := ⟨fun pins s σ H v u Q I r q => h.run pins s σ H v u Q I r (w v σ H Q q)⟩
def nilG : DnGs := fun ds g k => match ds with
  | [] => k g
  | _ => .err
def consG (f : DnG) (fs : DnGs) : DnGs := fun ds g k => match ds with
  | d :: ds => f d g fun g' => fs ds g' k
  | [] => .err
theorem dgs_nil : DGs X A [] [] nilG := ⟨pgs_nil.imp fun v σ H Q ⟨O, g, k, r, ds, F, rp, e, ne, q⟩ => by
  cases ds with
  | nil => exact ⟨rp, q σ g F .refl e⟩
  | cons _ _ => exact absurd e.symm ne⟩
theorem dgs_cons {es : List Expr} {f : DnG} {fs : DnGs} {is is' : List Nat} (h1 : DG X A is e f) (h2 : DGs X A is' es fs) (hs : (assignEach (e :: es) X.env).map (·.2) = assign e X.env :: (assignEach es X.env).map (·.2) := by rfl) : DGs X A (is ++ is') (e :: es) (consG f fs) :=
  ⟨(pgs_cons h1.pg h2.pg hs).imp fun v σ H Q ⟨O, g, k, r, ds, F, rp, e, ne, q⟩ => by
    cases ds with
    | nil => exact absurd e.symm ne
    | cons d ds =>
      obtain ⟨y, ys, rfl, r1, r2⟩ := rp
      exact ⟨y, ys, rfl, O, g, _, r, d, F, r1, e, ne, fun σ1 g1 F1 s1 e1 => ⟨O, g1, k, r, ds, F1, r2, e1, ne, fun σ2 g2 F2 s2 e2 => q σ2 g2 F2 (s1.trans s2) e2⟩⟩⟩
def tupG (n : Nat) (fs : DnGs) : DnG := fun d g k => match d with
  | .tuple ds => if ds.length = n then fs ds g k else .err
  | _ => .err
theorem dg_tup {es : List Expr} {k0 : Nat} {fs : DnGs} {n : Nat} {is : List Nat} {pos : Pos} (hc : X.calm = true) (h : DGs X A is es fs) (hn : (assignEach es X.env).length = n := by rfl) (hst : (assignEach es X.env).findIdx? (·.1) = none := by rfl) : DG X A is (.Tuple es k0 pos) (tupG n fs) :=
  ⟨(pg_tup hc h.pg hn hst).imp fun v σ H Q ⟨O, g, k, r, d, F, rp, e, ne, q⟩ => by
    cases d with
    | tuple ds =>
      have e : (if ds.length = n then fs ds g k else .err) = r := e
      by_cases hl : ds.length = n
      · rw [if_pos hl] at e
        obtain ⟨a, xs, rfl, na, ra, qa⟩ := rp
        exact ⟨a, xs, rfl, .inl ra, by rw [qa.length, hl], O, g, k, r, ds, F, qa, e, ne, q⟩
      · rw [if_neg hl] at e; exact absurd e.symm ne
    | _ => exact absurd e.symm ne⟩
/-- target = e, the target any -/
def bindT (f : DnD) (fg : DnG) : DnT := fun g k => f g fun d g' => fg d g' k
theorem dt_bind {tg : Expr} {f : DnD} {fg : DnG} {is : List Nat} {pos : Pos} (he : DS X W A c e f) (hg : DG X A is tg fg) (hs : swapsWithSole [tg] e pos.line X.env = pure false := by rfl) (hw : swappedStores [tg] e X.env = pure none := by rfl)
    (h1 : (assignEach [tg] X.env).map (·.2) = [assign tg X.env] := by rfl) : DT X W A (.Assign [tg] e pos) (bindT f fg) := ⟨(ps_asg he.pe hg.pg hs hw h1).imp fun D σ H ⟨O, g, k, r, F, e, Eo', q⟩ =>
  ⟨O, g, _, r, F, e, Eo'.go, fun v s O1 H1 g1 F1 gr1 p1 e1 => ⟨O1, g1, k, r, s, F1, p1, e1, Eo'.go.ne, fun σ2 g2 F2 _ e2 => q σ2 O1 H1 g2 F2 gr1.weak e2⟩⟩⟩
/-- a, b = e1, e2 (stored from the right) -/
def parT (i j : Nat) (fs : DnL) : DnT := fun g k => fs g fun ds g' => match ds with
  | [x, y] => stC i (.sh x) g' fun g2 => stC j (.sh y) g2 k
  | _ => .err
theorem dt_par {i j : Nat} {x y : Str} {fs : DnL} {px py pt : Pos} {kt k2 pt2} {pos : Pos} (hc : X.calm = true) (hN : X.N.Nodup) (hi : X.N[i]? = some x) (hj : X.N[j]? = some y) (hij : i ≠ j)
    (hx : X.env.scope.names.lookup x = some .local) (hy : X.env.scope.names.lookup y = some .local) (ha : DL true X W A c [a, b] fs)
    (hw : swappedStores [.Tuple [.Name x px, .Name y py] kt pt] (.Tuple [a, b] k2 pt2) X.env = pure (some [x, y]))
    (hs : swapsWithSole [.Tuple [.Name x px, .Name y py] kt pt] (.Tuple [a, b] k2 pt2) pos.line X.env = pure false := by rfl) :
    DT X W A (.Assign [.Tuple [.Name x px, .Name y py] kt pt] (.Tuple [a, b] k2 pt2) pos) (parT i j fs) := ⟨(ps_par hc hN hi hj hij hx hy ha.pa hw hs).imp fun D σ H ⟨O, g, k, r, F, e, Eo', q⟩ => by
  refine ⟨O, g, _, r, F, e, Eo'.go, fun vs ds O1 H1 g1 F1 gr1 p1 l1 e1 => ?_⟩
  have p1 : RpAll O1 H1 ds vs := p1
  match ds, l1, p1, e1 with
  | [d1, d2], _, ⟨v, _, e2, r1, w, _, e3, r2, e4⟩, e1 =>
    subst e2; subst e3; cases (show _ = [] from e4)
    obtain ⟨g2, e5, F2⟩ := store_pF (s := .sh d1) F1 r1 e1 Eo'.go.ne
    obtain ⟨g3, e6, F3⟩ := store_pF (s := .sh d2) F2 r2 e5 Eo'.go.ne
    exact ⟨v, w, rfl, q _ O1 H1 g3 F3 gr1.weak e6⟩⟩

/-! ### changes of own lists -/
/-- x.append(e) -/
def appT (i : Nat) (f : DnD) : DnD := fun g k => match g[i]? with
  | some (.ow (.list _)) | some (.rf (.list _)) => f g fun d g' => match g'[i]? with
    | some (.ow (.list ds)) => if ds.length < sizeLine then k .none (g'.set i (.ow (.list (ds ++ [d])))) else .err
    | some (.rf (.list ds)) => if ds.length < sizeLine then k .none (g'.set i (.rf (.list (ds ++ [d])))) else .err
    | _ => .err
  | _ => .err
/-- the own list of a slot -/
theorem FI.lstAt {σ : L2.St} {g : Gam} {i : Nat} {s : Sl} {ds : List D} (F : FI A O σ H g) (h : g[i]? = some s) (hs : s = .ow (.list ds) ∨ s = .rf (.list ds)) : ∃ p xs, σ[i]? = some (some (.ref p)) ∧ O p ∧ H p = some (.lst xs) ∧ RpAll O H ds xs := by
  rcases hs with rfl | rfl
  · obtain ⟨p, e, ho, _, xs, r, q⟩ := F.ow i _ h; exact ⟨p, xs, e, ho, r, q⟩
  · obtain ⟨p, er, e, xs, r, q⟩ := F.rf i _ h; exact ⟨p, xs, e, F.rO er, r, q⟩
theorem mv_write {p : Addr} {o : HO} (ho : O p) : ∀ a u, H a = some u → ¬ O a → upd H p o a = some u ∧ ¬ O a := fun a u e n => ⟨by rw [upd_ne (fun z => n (by rw [z]; exact ho))]; exact e, n⟩
end
end Z

namespace Z
open PySem L2

/-! ### methods that change an own list -/
def lstOf : Option Sl → Option (List D)
  | some (.ow (.list ds)) => some ds
  | some (.rf (.list ds)) => some ds
  | _ => none
def stTo (g : Gam) (i : Nat) (d : D) : Gam := match g[i]? with
  | some s => g.set i (s.to d)
  | none => g
def mutC (i : Nat) (fs : DnL) (op : List D → List D → Option (D × List D)) : DnD := fun g k => match lstOf g[i]? with
  | some _ => fs g fun as g' => match lstOf g'[i]? with
    | some ds => match op ds as with
      | some (d, ds') => k d (stTo g' i (.list ds'))
      | none => .err
    | none => .err
  | none => .err
section
variable {X : Cx} {W : WX} {A : Act} {c : Bool} {e : Expr} {O : Addr → Prop} {H : Hp} {σ : L2.St} {g : Gam} {i : Nat} {ds : List D}
theorem FI.lstOf (F : FI A O σ H g) (h : Z.lstOf g[i]? = some ds) : ∃ s p xs, g[i]? = some s ∧ s.isOw = true ∧ σ[i]? = some (some (.ref p)) ∧ O p ∧ H p = some (.lst xs) ∧ RpAll O H ds xs := by
  unfold Z.lstOf at h
  split at h
  · rename_i ds' hs
    cases h
    obtain ⟨p, xs, q⟩ := F.lstAt hs (.inl rfl)
    exact ⟨_, p, xs, hs, rfl, q⟩
  · rename_i ds' hs
    cases h
    obtain ⟨p, xs, q⟩ := F.lstAt hs (.inr rfl)
    exact ⟨_, p, xs, hs, rfl, q⟩
  · cases h
/-- a value-level rule of such a method -/
def RuM (r : V → List V → Hp → VK → Prop) (op : List D → List D → Option (D × List D)) : Prop :=
  ∀ (O : Addr → Prop) (H : Hp) (p : Addr) (xs vs : List V) (ds as ds' : List D) (d : D) (Q : VK), H p = some (.lst xs) → RpAll O H ds xs → RpAll O H as vs → op ds as = some (d, ds') →
    (∀ v xs', RpAll O H ds' xs' → Rp O H d v → Q v (upd H p (.lst xs'))) → r (.ref p) vs H Q
theorem mut_core {K : PySem.W.Frag} {r : V → List V → Hp → VK → Prop} {op : List D → List D → Option (D × List D)} (hv : RuM r op) {fs : DnL} {n : Nat} {σ : L2.St} {H : Hp} {Q : VK}
    (h : tG A W false pS (mutC i fs op) σ H Q) : tVar i σ H fun x H1 => tyV K "list" x H1 ∧ tGL A W c n (pLM true) fs σ H1 fun xs H2 => r x xs H2 Q := by
  obtain ⟨O, g, k, r0, F, e, G, q⟩ := h
  unfold mutC at e
  cases h0 : lstOf g[i]? with
  | none => rw [h0] at e; exact absurd e.symm G.ne
  | some ds0 =>
    rw [h0] at e
    obtain ⟨s0, p, xs0, hs0, ho0, ep, hO, hp, q0⟩ := F.lstOf h0
    refine ⟨_, ep, .inl ⟨rfl, xs0, .inl (.inl hp)⟩, O, g, _, r0, F, e, G, fun vs as O1 H1 g1 F1 gr1 p1 l1 e1 => ?_⟩
    cases h1 : lstOf g1[i]? with
    | none => simp only [h1] at e1; exact absurd e1.symm G.ne
    | some ds =>
      simp only [h1] at e1
      obtain ⟨s1, p', xs, hs1, ho1, ep', hO', hp', q1⟩ := F1.lstOf h1
      rw [ep] at ep'
      have : p = p' := by injection ep' with z; injection z with z; injection z
      subst this
      cases h2 : op ds as with
      | none => simp only [h2] at e1; exact absurd e1.symm G.ne
      | some y =>
        obtain ⟨d, ds'⟩ := y
        simp only [h2] at e1
        refine hv O1 H1 p xs vs ds as ds' d Q hp' q1 p1 h2 fun v xs' r1 r2 => ?_
        have mv : ∀ a u, H1 a = some u → ¬ O1 a → upd H1 p (.lst xs') a = some u ∧ ¬ O1 a := mv_write hO'
        have Fw := F1.write (d := .list ds') (o := .lst xs') hs1 ho1 ep ⟨xs', upd_same, RpAll.move mv _ _ r1⟩
        have es : stTo g1 i (.list ds') = g1.set i (s1.to (.list ds')) := by unfold stTo; rw [hs1]
        rw [es] at e1
        exact q v d O1 _ _ Fw (gr1.weak.trans (Gr.write (c := false) hO')) (Rp.move mv _ _ r2) e1
/-- x.m(e, ..) on an own list -/
theorem ds_mut {o e : Expr} {es : List Expr} {name : Str} {id : String} {apos cpos : Pos} {r : V → List V → Hp → VK → Prop} {op : List D → List D → Option (D × List D)} {fs : DnL} (hv : RuM r op) (slot : Slot "list" name id)
    (hty : typeOf (.builtin id) = pure (.type "method_descriptor")) (hm : MtR X id r) (ho : PE X o (tVar i)) (ha : DL true X W A c (e :: es) fs)
    (hbase : attributeBase o name X.env (eval o X.env) = eval o X.env := by rfl)
    (hfew : ((backTo cpos (starEach (e :: es) X.env)).all (fun x => !x.1) && (backToKw cpos (keywordEach [] X.env)).all (fun x => x.1.isSome)
      && decide ((e :: es).length + ([] : List Keyword).length + (if ([] : List Keyword).isEmpty then 0 else 1) < 30)) = true := by rfl)
    (hline : (apos.endLine == cpos.line) = true := by rfl) (hs : starEach (e :: es) X.env = (false, eval e X.env) :: starEach es X.env := by rfl) (hplain : (backTo cpos (starEach es X.env)).any (·.1) = false := by rfl) :
    DS X W A false (.Call (.Attribute o name apos) (e :: es) [] cpos) (mutC i fs op) := ⟨(pe_bm PySem.F.plainAttrs_list slot hty hm ho ha.pa hbase hfew hline hs hplain).imp fun σ H Q h => mut_core hv h⟩
/-- x.m() on an own list -/
theorem ds_mut0 {o : Expr} {name : Str} {id : String} {apos cpos : Pos} {r : V → List V → Hp → VK → Prop} {op : List D → List D → Option (D × List D)} (hv : RuM r op) (slot : Slot "list" name id)
    (hty : typeOf (.builtin id) = pure (.type "method_descriptor")) (hm : MtR X id r) (ho : PE X o (tVar i))
    (hbase : attributeBase o name X.env (eval o X.env) = eval o X.env := by rfl) (hline : (apos.endLine == cpos.line) = true := by rfl) :
    DS X W A false (.Call (.Attribute o name apos) [] [] cpos) (mutC i nilC op) := ⟨(pe_bm0 PySem.F.plainAttrs_list slot hty hm ho hbase hline).imp fun σ H Q h => by
  obtain ⟨x, ex, ty, O, g, k, r0, F, e, G, q⟩ := mut_core (c := true) (n := 0) (K := X.K) hv h
  exact ⟨x, ex, ty, q [] [] O H g F Gr.refl rfl rfl e⟩⟩
def appO (ds as : List D) : Option (D × List D) := match as with
  | [d] => if ds.length < sizeLine then some (.none, ds ++ [d]) else none
  | _ => none
theorem ru_append : RuM rAppend appO := by
  intro O H p xs vs ds as ds' d Q hp r1 r2 ho hQ
  unfold appO at ho
  split at ho
  · split at ho
    · rename_i y hz
      cases ho
      obtain ⟨v, _, rfl, rv, e⟩ := r2
      cases (show _ = [] from e)
      refine ⟨p, xs, v, rfl, rfl, hp, by rw [r1.length]; exact hz, hQ _ _ (r1.append (RpAll.cons rv RpAll.nil)) rfl⟩
    · cases ho
  · cases ho
/-- x.append(e) -/
theorem ds_append {o e : Expr} {apos cpos : Pos} {fs : DnL} (ho : PE X o (tVar i)) (ha : DL true X W A c [e] fs) (hbase : attributeBase o "append" X.env (eval o X.env) = eval o X.env := by rfl)
    (hfew : ((backTo cpos (starEach [e] X.env)).all (fun x => !x.1) && (backToKw cpos (keywordEach [] X.env)).all (fun x => x.1.isSome)
      && decide ([e].length + ([] : List Keyword).length + (if ([] : List Keyword).isEmpty then 0 else 1) < 30)) = true := by rfl)
    (hline : (apos.endLine == cpos.line) = true := by rfl) (hs : starEach [e] X.env = (false, eval e X.env) :: starEach [] X.env := by rfl) :
    DS X W A false (.Call (.Attribute o "append" apos) [e] [] cpos) (mutC i fs appO) :=
  ds_mut ru_append PySem.F.slot_list_append PySem.F.type_list_append mt_append ho ha hbase hfew hline hs rfl
def popO (ds as : List D) : Option (D × List D) := match as with
  | [] => (ds[ds.length - 1]?).map fun d => (d, ds.dropLast)
  | _ => none
theorem ru_pop : RuM rPop popO := by
  intro O H p xs vs ds as ds' d Q hp r1 r2 ho hQ
  unfold popO at ho
  split at ho
  · cases hd : ds[ds.length - 1]? with
    | none => rw [hd] at ho; cases ho
    | some y =>
      rw [hd] at ho
      cases ho
      cases (show _ = [] from r2)
      obtain ⟨v, h1, h2⟩ := r1.get hd
      exact ⟨p, xs, v, rfl, rfl, hp, by rw [r1.length]; exact h1, hQ _ _ (r1.sub (fun l => l.dropLast) fun g l => by simp) h2⟩
  · cases ho
theorem ds_pop {o : Expr} {apos cpos : Pos} (ho : PE X o (tVar i)) (hbase : attributeBase o "pop" X.env (eval o X.env) = eval o X.env := by rfl) (hline : (apos.endLine == cpos.line) = true := by rfl) :
    DS X W A false (.Call (.Attribute o "pop" apos) [] [] cpos) (mutC i nilC popO) := ds_mut0 ru_pop PySem.F.slot_list_pop PySem.F.type_list_pop mt_pop ho hbase hline

/-! ### x[i] = e, x[i] += e on an own list -/
/-- o[k] = v, by the slot of o -/
def putC (i : Nat) (fi : DnD) (d : D) (g : Gam) (k : Gam → R) : R := match lstOf g[i]? with
  | some _ => fi g fun j g' => match lstOf g'[i]?, j with
    | some ds, .int n => match ixN ds.length n with
      | some m => k (stTo g' i (.list (ds.set m d)))
      | none => .err
    | _, _ => .err
  | none => .err
def subT (i : Nat) (fe : DnD) (fi : DnD) : DnT := fun g k => fe g fun d g' => putC i fi d g' k
/-- x[i] = e -/
theorem dt_sub {o ix : Expr} {fe fi : DnD} {pos pos' : Pos} {ca : Bool} (he : DS X W A c e fe) (ho : PE X o (tVar i)) (hi : DR X W A ca ix fi)
    (ha : ∀ v, assign (.Subscript o ix pos') X.env v = (do
      let ov ← holding [v] (eval o X.env)
      let iv ← holding [v, ov] (eval ix X.env)
      standAt pos'
      holding [v, ov, iv] (setItem ov iv v)
      release [v, ov, iv] []) := by intro _; rfl)
    (hs : swapsWithSole [.Subscript o ix pos'] e pos.line X.env = pure false := by rfl) (hw : swappedStores [.Subscript o ix pos'] e X.env = pure none := by rfl)
    (h1 : (assignEach [.Subscript o ix pos'] X.env).map (·.2) = [assign (.Subscript o ix pos') X.env] := by rfl) :
    DT X W A (.Assign [.Subscript o ix pos'] e pos) (subT i fe fi) := ⟨(ps_asg he.pe (pg_sub ho hi.pe set_list ha) hs hw h1).imp fun D σ H ⟨O, g, k, r, F, e, Eo', q⟩ => by
  refine ⟨O, g, _, r, F, e, Eo'.go, fun v d O1 H1 g1 F1 gr1 p1 e1 => ?_⟩
  have p1 : Rp O1 H1 d v := p1
  unfold putC at e1
  cases h0 : lstOf g1[i]? with
  | none => rw [h0] at e1; exact absurd e1.symm Eo'.go.ne
  | some ds0 =>
    rw [h0] at e1
    obtain ⟨s0, p, xs0, hs0, ho0, ep, hO, hp, q0⟩ := F1.lstOf h0
    refine ⟨_, ep, O1, g1, _, r, F1, e1, Eo'.go, fun jv j O2 H2 g2 F2 gr2 p2 e2 => ?_⟩
    cases h1 : lstOf g2[i]? with
    | none => simp only [h1] at e2; exact absurd e2.symm Eo'.go.ne
    | some ds =>
      simp only [h1] at e2
      obtain ⟨s1, p', xs, hs1, ho1, ep', hO', hp', q1⟩ := F2.lstOf h1
      rw [ep] at ep'
      have : p = p' := by injection ep' with z; injection z with z; injection z
      subst this
      cases j with
      | int n =>
        simp only at e2
        cases h2 : ixN ds.length n with
        | none => simp only [h2] at e2; exact absurd e2.symm Eo'.go.ne
        | some m =>
          simp only [h2] at e2
          have hj := rd_int p2
          subst hj
          refine ⟨p, xs, n, m, rfl, rfl, hp', by rw [q1.length]; exact h2, ?_⟩
          have mv : ∀ a u, H2 a = some u → ¬ O2 a → upd H2 p (.lst (xs.set m v)) a = some u ∧ ¬ O2 a := mv_write hO'
          have Fw := F2.write (d := .list (ds.set m d)) (o := .lst (xs.set m v)) hs1 ho1 ep ⟨_, upd_same, RpAll.move mv _ _ (q1.set (gr2.rp p1) m)⟩
          have es : stTo g2 i (.list (ds.set m d)) = g2.set i (s1.to (.list (ds.set m d))) := by unfold stTo; rw [hs1]
          rw [es] at e2
          exact q σ O2 _ _ Fw ((gr1.weak.trans gr2).trans (Gr.write (c := false) hO')) e2
      | _ => exact absurd e2.symm Eo'.go.ne⟩
theorem get_list : PGet X (rIxL X.K) := by
  intro pins s σ H o i ov iv Q I ro ri h
  obtain ⟨p, xs, k, v, rfl, rfl, hq, he, q⟩ := h
  cases ro
  obtain ⟨t, rfl⟩ := ri
  obtain ⟨its, r, pl, hz⟩ := I.list hq
  obtain ⟨j, h1, h2, h3, h4, h5⟩ := atI_get he
  obtain ⟨w, ew, rw'⟩ := r.get h2
  have hl := r.length
  have hsl := sizeLine_eq
  have fin : EP X pins σ Q w s := ⟨v, H, I, rw', q⟩
  by_cases h0 : 0 ≤ k
  · rw [seqIndex_of h0 h5] at h1
    have hj : k.toNat = j := Option.some.inj h1
    exact wpAny_getItem_list pl.isList h0 (by omega) (by rw [hj]; simpa using ew) fin
  · rw [seqIndex_neg (by omega) h4] at h1
    have hj : (k + (xs.length : Int)).toNat = j := Option.some.inj h1
    exact wpAny_getItem_list_neg pl.isList (by omega) (by rw [List.size_toArray]; omega) (by omega) (by rw [List.size_toArray, ← hl, hj]; simpa using ew) fin
/-- x[i] op= e: op of whole numbers -/
def augT (i : Nat) (fi fe : DnD) (f : Int → Int → Int) : DnT := fun g k => match lstOf g[i]? with
  | some _ => fi g fun j g1 => match lstOf g1[i]?, j with
    | some ds, .int n => match ixN ds.length n with
      | some m => match ds[m]? with
        | some (.int x) => fe g1 fun y g2 => match lstOf g2[i]?, y with
          | some ds2, .int y => match ixN ds2.length n with
            | some m2 => k (stTo g2 i (.list (ds2.set m2 (.int (f x y)))))
            | none => .err
          | _, _ => .err
        | _ => .err
      | none => .err
    | _, _ => .err
  | none => .err
theorem dt_aug {o ix : Expr} {fe fi : DnD} {f : Int → Int → Int} {op : Operator} {pos tpos : Pos} {ca : Bool} (hp : PIp X op (ipI f)) (ho : PE X o (tVar i)) (hi : DR X W A ca ix fi) (he : DR X W A c e fe)
    (ha : ∀ ov iv new, augStore ix ov iv new = (do holding [new, ov, iv] (setItem ov iv new); release [new, ov, iv] []; pure .next) := by intros; rfl) :
    DT X W A (.AugAssign (.Subscript o ix tpos) op e pos) (augT i fi fe f) := ⟨(ps_augS ho hi.pe get_list he.pe hp set_list ha).imp fun D σ H ⟨O, g, k, r, F, e, Eo', q⟩ => by
  unfold augT at e
  cases h0 : lstOf g[i]? with
  | none => rw [h0] at e; exact absurd e.symm Eo'.go.ne
  | some ds0 =>
    rw [h0] at e
    obtain ⟨s0, p, xs0, hs0, ho0, ep, hO, hp0, q0⟩ := F.lstOf h0
    refine ⟨_, ep, O, g, _, r, F, e, Eo'.go, fun jv j O2 H2 g2 F2 gr2 p2 e2 => ?_⟩
    cases h1 : lstOf g2[i]? with
    | none => simp only [h1] at e2; exact absurd e2.symm Eo'.go.ne
    | some ds =>
      simp only [h1] at e2
      obtain ⟨s1, p', xs, hs1, ho1, ep', hO', hp', q1⟩ := F2.lstOf h1
      rw [ep] at ep'
      have : p = p' := by injection ep' with z; injection z with z; injection z
      subst this
      cases j with
      | int n =>
        simp only at e2
        have hj := rd_int p2
        subst hj
        cases h2 : ixN ds.length n with
        | none => simp only [h2] at e2; exact absurd e2.symm Eo'.go.ne
        | some m =>
          simp only [h2] at e2
          cases h3 : ds[m]? with
          | none => simp only [h3] at e2; exact absurd e2.symm Eo'.go.ne
          | some old =>
            simp only [h3] at e2
            cases old with
            | int x =>
              obtain ⟨w, ew, rw'⟩ := q1.get h3
              cases (show w = _ from rw')
              refine ⟨p, xs, n, _, rfl, rfl, .inl (.inl hp'), by unfold atI; rw [q1.length, h2]; exact ew, O2, g2, _, r, F2, e2, Eo'.go, fun yv y O3 H3 g3 F3 gr3 p3 e3 => ?_⟩
              cases h4 : lstOf g3[i]? with
              | none => simp only [h4] at e3; exact absurd e3.symm Eo'.go.ne
              | some ds2 =>
                simp only [h4] at e3
                obtain ⟨s2, p', ys, hs2, ho2, ep', hO2, hp2, q2⟩ := F3.lstOf h4
                rw [ep] at ep'
                have : p = p' := by injection ep' with z; injection z with z; injection z
                subst this
                cases y with
                | int y =>
                  simp only at e3
                  have hy := rd_int p3
                  subst hy
                  cases h5 : ixN ds2.length n with
                  | none => simp only [h5] at e3; exact absurd e3.symm Eo'.go.ne
                  | some m2 =>
                    simp only [h5] at e3
                    refine ⟨x, y, rfl, rfl, p, ys, n, m2, rfl, rfl, hp2, by rw [q2.length]; exact h5, ?_⟩
                    have mv : ∀ a u, H3 a = some u → ¬ O3 a → upd H3 p (.lst (ys.set m2 (.int (f x y)))) a = some u ∧ ¬ O3 a := mv_write hO2
                    have Fw := F3.write (d := .list (ds2.set m2 (.int (f x y)))) (o := .lst (ys.set m2 (.int (f x y)))) hs2 ho2 ep ⟨_, upd_same, RpAll.move mv _ _ (q2.set (d := .int (f x y)) (v := .int (f x y)) rfl m2)⟩
                    have es : stTo g3 i (.list (ds2.set m2 (.int (f x y)))) = g3.set i (s2.to (.list (ds2.set m2 (.int (f x y))))) := by unfold stTo; rw [hs2]
                    rw [es] at e3
                    exact q σ O3 _ _ Fw ((gr2.weak.trans gr3).trans (Gr.write (c := false) hO2)) e3
                | _ => exact absurd e3.symm Eo'.go.ne
            | _ => exact absurd e2.symm Eo'.go.ne
      | _ => exact absurd e2.symm Eo'.go.ne⟩
/-- x op= e at a name, whole numbers -/
def augN (i : Nat) (fe : DnD) (f : Int → Int → Int) : DnT := fun g k => match g[i]? with
  | some (.sh (.int x)) => fe g fun y g' => match y with
    | .int y => stC i (.sh (.int (f x y))) g' k
    | _ => .err
  | _ => .err
theorem dt_augN {x : Str} {fe : DnD} {f : Int → Int → Int} {op : Operator} {pos pos' : Pos} (hp : PIp X op (ipI f)) (hN : X.N.Nodup) (hi : X.N[i]? = some x) (hx : Loc X.env.scope x) (he : DR X W A c e fe)
    (hf : X.fn x = true ∨ X.env.scope.names.lookup x = some .local := by first | exact .inl rfl | exact .inr rfl | assumption) : DT X W A (.AugAssign (.Name x pos') op e pos) (augN i fe f) := ⟨(ps_aug hN hi hx he.pe hp hf).imp fun D σ H ⟨O, g, k, r, F, e, Eo', q⟩ => by
  unfold augN at e
  split at e
  · rename_i x0 hs
    obtain ⟨v, ev, rv⟩ := F.sh i _ hs
    cases (show v = _ from rv)
    refine ⟨_, ev, O, g, _, r, F, e, Eo'.go, fun yv y O1 H1 g1 F1 gr1 p1 e1 => ?_⟩
    cases y with
    | int y =>
      have hy := rd_int p1
      subst hy
      obtain ⟨g2, e2, F2⟩ := store_pF (s := .sh (.int (f x0 y))) F1 (v := .int (f x0 y)) rfl e1 Eo'.go.ne
      exact ⟨x0, y, rfl, rfl, q _ O1 H1 g2 F2 gr1.weak e2⟩
    | _ => exact absurd e1.symm Eo'.go.ne
  · exact absurd e.symm Eo'.go.ne⟩
end
end Z

namespace Z
open PySem L2

/-! ### what is walked -/
/-- from O, H on: J yields ds, one by one, whatever is done to own objects meanwhile -/
def ItOk (J : It) (O : Addr → Prop) (H : Hp) (ds : List D) : Prop :=
  ∀ (O2 : Addr → Prop) (H2 : Hp), Gr false O H O2 H2 → OT O2 H2 → ∀ i : Nat,
    (i < ds.length → J.go i H2 ∧ ∀ (x : V) (H3 : Hp), J.yld i H2 x H3 → ∃ d, ds[i]? = some d ∧ Same H2 H3 ∧ Rp O2 H3 d x) ∧ (ds.length ≤ i → J.stop i H2)
def tGI (A : Act) (W : WX) (c : Bool) (f : DnL) : TI := fun σ H Q =>
  ∃ (O : Addr → Prop) (g : Gam) (k : List D → Gam → R) (r : R), FI A O σ H g ∧ f g k = r ∧ Go A W r ∧
    ∀ (J : It) (ds : List D) (O' : Addr → Prop) (H' : Hp) (g' : Gam), FI A O' σ H' g' → Gr c O H O' H' → ItOk J O' H' ds → ds.length ≤ sizeLine → k ds g' = r → Q J H'
structure DI (X : Cx) (W : WX) (A : Act) (c : Bool) (tg iter : Expr) (f : DnL) : Prop where
  pi : PI X tg iter (tGI A W c f)
theorem _root_.L2.PI.imp {X : Cx} {tg e : Expr} {t t' : TI} (h : PI X tg e t) (w : ∀ σ H Q, t' σ H Q → t σ H Q) : PI X tg e t' := ⟨fun pins s σ H Q I q => h.run pins s σ H Q I (w σ H Q q)⟩

section
variable {X : Cx} {W : WX} {A : Act} {c ca cb m m' : Bool} {e a b tg : Expr} {O : Addr → Prop} {H : Hp}
/-- a list, a tuple or a text, whatever it is -/
def iSeq (K : PySem.W.Frag) (t : TE) : TI := fun σ H Q => t σ H fun x H1 =>
  ((∃ a xs, x = .ref a ∧ SqL K H1 a xs ∧ (xs.length ≤ sizeLine → Q (Itl K a) H1)) ∨ ∃ a xs, x = .ref a ∧ SqT K H1 a xs ∧ (xs.length ≤ sizeLine → Q (Itt K a) H1)) ∨ ∃ z, x = .str z ∧ Q (Its z) H1
theorem pi_seq {t : TE} (h : PE X e t) : PI X tg e (iSeq X.K t) := by
  refine ⟨fun pins s σ H Q I q => thn (h.run pins s σ H _ I q) fun v s1 ⟨x, H1, I1, r1, q1⟩ => ?_⟩
  rcases q1 with (⟨a, xs, rfl, hq, q1⟩ | ⟨a, xs, rfl, hq, q1⟩) | ⟨z, rfl, q1⟩
  · cases r1; obtain ⟨its, rv, p, hz⟩ := I1.list hq
    exact wpAny_pyIter_list p.isList (pi_one (tk := s1.toks) I1 _ (turn_list a _) ⟨_, Heap.get?_push_size _ rfl, rfl, rfl⟩ (q1 hz))
  · cases r1; obtain ⟨its, rv, p, hz⟩ := I1.tuple hq
    exact wpAny_pyIter_tuple (show s1.heap.IsTuple a its.toArray from p) (pi_one (tk := s1.toks) I1 _ (turn_tuple a _) ⟨_, Heap.get?_push_size _ rfl, rfl, rfl⟩ (q1 hz))
  · obtain ⟨t', rfl⟩ := r1
    by_cases ha : z.cps.all (· < 128) = true
    · exact wpAny_pyIter_ascii ha (pi_one (tk := s1.toks) I1 _ (turn_str _ z t' "str_ascii_iterator" (.inl rfl)) ⟨_, Heap.get?_push_size _ rfl, rfl, rfl⟩ q1)
    · exact wpAny_pyIter_wide (by simpa using ha) (pi_one (tk := s1.toks) I1 _ (turn_str _ z t' "str_iterator" (.inr rfl)) ⟨_, Heap.get?_push_size _ rfl, rfl, rfl⟩ q1)
/-- a text's signs, each a text -/
def signs (x : Str) : List D := x.cps.toList.map fun c => .str ⟨#[c]⟩
/-- the items that a datum is walked by -/
def itemsD : D → Option (List D)
  | .list ds => some ds
  | .tuple ds => some ds
  | .str x => if x.length ≤ sizeLine then some (signs x) else none
  | _ => none
def seqI (f : DnD) : DnL := fun g k => f g fun d g' => match itemsD d with
  | some ds => k ds g'
  | none => .err
theorem itOk_list {K : PySem.W.Frag} {a : Addr} {ds : List D} {xs : List V} (n : ¬ O a) (r : Rd H a (.lst xs)) (q : RpAll O H ds xs) : ItOk (Itl K a) O H ds := fun O2 H2 gr ot i => by
  have r2 := rd_move gr.1 n r
  have q2 := gr.rpAll q
  have hs : SqL K H2 a xs := .inl r2.1
  constructor
  · intro hi
    have hx : i < xs.length := by rw [q.length]; exact hi
    refine ⟨⟨xs, xs[i], hs, by simp [hx]⟩, fun x H3 ⟨e, y⟩ => ?_⟩
    subst e
    obtain ⟨d, e1, e2⟩ := q2.get' (y xs hs)
    exact ⟨d, e1, Same.refl _, e2⟩
  · intro hi
    exact ⟨xs, hs, by rw [q.length]; exact hi⟩
theorem itOk_tup {K : PySem.W.Frag} {a : Addr} {ds : List D} {xs : List V} (n : ¬ O a) (r : Rd H a (.tup xs)) (q : RpAll O H ds xs) : ItOk (Itt K a) O H ds := fun O2 H2 gr ot i => by
  have r2 := rd_move gr.1 n r
  have q2 := gr.rpAll q
  have hs : SqT K H2 a xs := .inl r2.1
  constructor
  · intro hi
    have hx : i < xs.length := by rw [q.length]; exact hi
    refine ⟨⟨xs, xs[i], hs, by simp [hx]⟩, fun x H3 ⟨e, y⟩ => ?_⟩
    subst e
    obtain ⟨d, e1, e2⟩ := q2.get' (y xs hs)
    exact ⟨d, e1, Same.refl _, e2⟩
  · intro hi
    exact ⟨xs, hs, by rw [q.length]; exact hi⟩
theorem signs_len (z : Str) : (signs z).length = z.length := by simp [signs, Str.length]
theorem itOk_str {z : Str} : ItOk (Its z) O H (signs z) := fun O2 H2 gr ot i => by
  have hl : (signs z).length = z.cps.size := by simp [signs]
  constructor
  · intro hi
    refine ⟨(by rw [← hl]; exact hi : i < z.cps.size), fun x H3 ⟨e, ch, hc, ex⟩ => ?_⟩
    subst e
    subst ex
    refine ⟨.str ⟨#[ch]⟩, ?_, Same.refl _, rfl⟩
    simp only [signs, List.getElem?_map, Array.getElem?_toList, hc, Option.map_some]
  · intro hi
    show z.cps.size ≤ i
    rw [← hl]; exact hi
theorem di_seq {f : DnD} (h : DS X W A c e f) : DI X W A c tg e (seqI f) := ⟨(pi_seq h.pe).imp fun σ H Q ⟨O, g, k, r, F, e0, G, q⟩ => by
  refine ⟨O, g, _, r, F, e0, G, fun v d O1 H1 g1 F1 gr1 p1 e1 => ?_⟩
  have p1 : Rp O1 H1 d v := p1
  cases hi : itemsD d with
  | none => simp only [hi] at e1; exact absurd e1.symm G.ne
  | some ds =>
    simp only [hi] at e1
    cases d with
    | list ds' =>
      cases hi
      obtain ⟨a, xs, rfl, n, ra, qa⟩ := p1
      exact .inl (.inl ⟨a, xs, rfl, .inl ra, fun hz => q _ ds O1 H1 g1 F1 gr1 (itOk_list n ra qa) (by rw [← qa.length]; exact hz) e1⟩)
    | tuple ds' =>
      cases hi
      obtain ⟨a, xs, rfl, n, ra, qa⟩ := p1
      exact .inl (.inr ⟨a, xs, rfl, .inl ra, fun hz => q _ ds O1 H1 g1 F1 gr1 (itOk_tup n ra qa) (by rw [← qa.length]; exact hz) e1⟩)
    | str z =>
      cases (show v = _ from p1)
      unfold itemsD at hi
      simp only at hi
      by_cases hz : z.length ≤ sizeLine
      · rw [if_pos hz] at hi
        cases hi
        exact .inr ⟨z, rfl, q _ _ O1 H1 g1 F1 gr1 itOk_str (by rw [signs_len]; exact hz) e1⟩
      · rw [if_neg hz] at hi; cases hi
    | _ => cases hi⟩
/-- range(n), range(a, b) -/
def rngD (lo hi : Int) : List D := (List.range (hi - lo).toNat).map fun i : Nat => .int (lo + (i : Int))
def rngOk (lo hi : Int) : Bool := decide (-(2 ^ 62) ≤ lo ∧ lo < 2 ^ 62 ∧ -(2 ^ 62) ≤ hi ∧ hi < 2 ^ 62 ∧ (hi - lo).toNat ≤ sizeLine)
theorem itOk_rng {lo : Int} {n : Nat} : ItOk (Itr lo n) O H ((List.range n).map fun i : Nat => .int (lo + (i : Int))) := fun O2 H2 gr ot i => by
  constructor
  · intro hi
    have hi : i < n := by simpa using hi
    refine ⟨hi, fun x H3 ⟨e, ex⟩ => ?_⟩
    subst e
    subst ex
    exact ⟨.int (lo + i), by simp [hi], Same.refl _, rfl⟩
  · intro hi
    exact (by simpa using hi : n ≤ i)
def rng1I (f : DnD) : DnL := fun g k => f g fun d g' => match d with
  | .int n => if rngOk 0 n = true then k (rngD 0 n) g' else .err
  | _ => .err
def rng2I (fa fb : DnD) : DnL := fun g k => fa g fun d g1 => fb g1 fun d' g2 => match d, d' with
  | .int a, .int b => if rngOk a b = true then k (rngD a b) g2 else .err
  | _, _ => .err
theorem di_rng1 {f : DnD} {p pos : Pos} (hg : Gl X "range") (hm : X.mg "range" = none) (h : DM m X W A c a f) (hs : starEach [a] X.env = [(false, eval a X.env)] := by rfl) (hs' : starEach [a] X.env = (false, eval a X.env) :: starEach [] X.env := by rfl) : DI X W A c tg (.Call (.Name "range" p) [a] [] pos) (rng1I f) :=
  ⟨(pi_range1 hg hm (dl_cons (m := false) (m' := m) h dl_nil (by cases m <;> rfl) hs').pa hs).imp fun σ H Q ⟨O, g, k, r, F, e0, G, q⟩ => by
  refine ⟨O, g, fun ds g' => match ds with | [.int n] => if rngOk 0 n = true then k (rngD 0 n) g' else .err | _ => .err, r, F, ?_, G, fun vs ds O1 H1 g1 F1 gr1 p1 l1 e1 => ?_⟩
  · rw [← e0]
    show f g _ = f g _
    congr 1
    funext d g'
    cases d <;> rfl
  · match ds, l1, p1, e1 with
    | [d], _, ⟨w, _, e2, r1, e3⟩, e1 =>
      subst e2; cases (show _ = [] from e3)
      cases d with
      | int n =>
        have hw := rd_int r1
        subst hw
        have e1 : (if rngOk 0 n = true then k (rngD 0 n) g1 else .err) = r := e1
        by_cases ho : rngOk 0 n = true
        · rw [if_pos ho] at e1
          have hh := of_decide_eq_true ho
          refine ⟨n, rfl, hh.2.2.1, hh.2.2.2.1, ?_⟩
          have e4 : (n - 0).toNat = n.toNat := by omega
          have hr : rngD 0 n = (List.range n.toNat).map fun i : Nat => PyData.int (0 + (i : Int)) := by unfold rngD; rw [e4]
          exact q _ _ O1 H1 g1 F1 (by simpa using gr1) (by rw [hr]; exact itOk_rng) (by rw [hr]; simpa [e4] using hh.2.2.2.2) e1
        · rw [if_neg ho] at e1; exact absurd e1.symm G.ne
      | _ => exact absurd e1.symm G.ne⟩
theorem di_rng2 {fa fb : DnD} {p pos : Pos} (hg : Gl X "range") (hm : X.mg "range" = none) (ha : DM m X W A ca a fa) (hb : DM m' X W A cb b fb) (hk : (m || cb) = true := by rfl) (hs : starEach [a, b] X.env = [(false, eval a X.env), (false, eval b X.env)] := by rfl) (hs2 : starEach [b] X.env = [(false, eval b X.env)] := by rfl)
    (hs' : starEach [a, b] X.env = (false, eval a X.env) :: starEach [b] X.env := by rfl) (hs3 : starEach [b] X.env = (false, eval b X.env) :: starEach [] X.env := by rfl) : DI X W A (ca && cb) tg (.Call (.Name "range" p) [a, b] [] pos) (rng2I fa fb) :=
  ⟨(pi_range2 hg hm (dl_cons (m := false) (m' := m) ha (dl_cons (m := false) (m' := m') hb dl_nil (by cases m' <;> rfl) hs3) (by cases m <;> cases cb <;> first | rfl | exact hk) hs').pa hs hs2).imp fun σ H Q ⟨O, g, k, r, F, e0, G, q⟩ => by
  refine ⟨O, g, fun ds g' => match ds with | [.int x, .int y] => if rngOk x y = true then k (rngD x y) g' else .err | _ => .err, r, F, ?_, G, fun vs ds O1 H1 g1 F1 gr1 p1 l1 e1 => ?_⟩
  · rw [← e0]
    show fa g _ = fa g _
    congr 1
    funext d g'
    show fb g' _ = fb g' _
    congr 1
    funext d' g''
    cases d <;> cases d' <;> rfl
  · match ds, l1, p1, e1 with
    | [d, d'], _, ⟨w, _, e2, r1, w', _, e3, r2, e4⟩, e1 =>
      subst e2; subst e3; cases (show _ = [] from e4)
      cases d with
      | int x =>
        cases d' with
        | int y =>
          have hw := rd_int r1
          have hw' := rd_int r2
          subst hw hw'
          have e1 : (if rngOk x y = true then k (rngD x y) g1 else .err) = r := e1
          by_cases ho : rngOk x y = true
          · rw [if_pos ho] at e1
            have hh := of_decide_eq_true ho
            refine ⟨x, y, rfl, ⟨hh.1, hh.2.1, hh.2.2.1, hh.2.2.2.1⟩, ?_⟩
            exact q _ _ O1 H1 g1 F1 (by simpa using gr1) itOk_rng (by rw [List.length_map, List.length_range]; exact hh.2.2.2.2) e1
          · rw [if_neg ho] at e1; exact absurd e1.symm G.ne
        | _ => exact absurd e1.symm G.ne
      | _ => exact absurd e1.symm G.ne⟩

/-! ### for -/
/-- behind a turn: what the loop did not know at its start is forgotten -/
def mask (g0 g : Gam) : Gam := List.zipWith (fun a b => match a with | .no => .no | _ => b) g0 g
def forR (f : D → Gam → R) (g0 : Gam) : List D → Gam → R
  | [], g => .nx g
  | d :: ds, g => match f d g with
    | .nx g' => if g'.length = g0.length then forR f g0 ds (mask g0 g') else .err
    | .ct g' => if g'.length = g0.length then forR f g0 ds (mask g0 g') else .err
    | .brk g' => if g'.length = g0.length then .nx (mask g0 g') else .err
    | .va _ _ => .err
    | r => r
def thenR (r : R) (k : Gam → R) : R := match r with
  | .nx g => k g
  | .brk _ => .err
  | .ct _ => .err
  | .va _ _ => .err
  | r => r
/-- for target in iter: body -/
def forT (fi : DnL) (fg : DnG) (fb : DnT) : DnT := fun g k => fi g fun ds g1 => thenR (forR (fun d g => fg d g fun g' => fb g' .nx) g1 ds g1) k
theorem FI.mask {σ : L2.St} {g g0 : Gam} (F : FI A O σ H g) (hl : g.length = g0.length) : FI A O σ H (mask g0 g) := by
  refine F.forget (by unfold Z.mask; rw [List.length_zipWith, hl, Nat.min_self]) fun i s h => ?_
  unfold Z.mask at h
  rw [List.getElem?_zipWith] at h
  cases h1 : g0[i]? with
  | none => rw [h1] at h; cases h
  | some s0 =>
    cases h2 : g[i]? with
    | none => rw [h1, h2] at h; cases h
    | some s1 =>
      rw [h1, h2] at h
      cases s0 with
      | no => cases h; exact .inl rfl
      | _ => cases h; exact .inr rfl
theorem dt_for {iter : Expr} {body : List Stmt} {fi : DnL} {fg : DnG} {fb : DnT} {is : List Nat} {pos : Pos} (hp : PassesOwn (model X.prog X.w) X.A X.env X.xe) (hc : X.calm = true) (hi : DI X W A c tg iter fi) (hg : DG X A is tg fg) (hb : DTs X W A body fb)
    (hs : ∀ x, foldedSetIterable iter X.env x = pure x := by intro _; rfl) : DT X W A (.For tg iter body [] pos) (forT fi fg fb) := ⟨(ps_for hp hc hi.pi hg.pg hb.ps hs).imp fun D σ H ⟨O, g, k, r, F, e, Eo', q⟩ => by
  refine ⟨O, g, _, r, F, e, Eo'.go, fun J ds O1 H1 g1 F1 gr1 io hz e1 => ?_⟩
  -- the turns that are left, from the slots as they are
  refine ⟨fun i n σ H => ∃ O2 g2, FI A O2 σ H g2 ∧ Gr false O1 H1 O2 H ∧ n = ds.length - i ∧ i ≤ ds.length ∧ thenR (forR (fun d g => fg d g fun g' => fb g' .nx) g1 (ds.drop i) g2) k = r, ⟨ds.length, O1, g1, F1, Gr.refl, rfl, Nat.zero_le _, e1⟩, ?_⟩
  rintro i n σ2 H2 ⟨O2, g2, F2, gr2, rfl, hi2, e2⟩
  have it := io O2 H2 gr2 F2.ot i
  by_cases hlt : i < ds.length
  · obtain ⟨go, step⟩ := it.1 hlt
    have hd : ds.drop i = ds[i] :: ds.drop (i + 1) := List.drop_eq_getElem_cons hlt
    rw [hd] at e2
    refine .inr ⟨go, fun σ' H' => ∃ O3 g3, FI A O3 σ' H' g3 ∧ Gr false O1 H1 O3 H' ∧ thenR (forR (fun d g => fg d g fun g' => fb g' .nx) g1 (ds.drop (i + 1)) g3) k = r, fun σ' H' ⟨O3, g3, F3, gr3, e3⟩ => ⟨ds.length - (i + 1), by omega, O3, g3, F3, gr3, rfl, hlt, e3⟩, fun x H3 y => ?_⟩
    obtain ⟨d, ed, sm, rp⟩ := step x H3 y
    have : d = ds[i] := by rw [List.getElem?_eq_getElem hlt] at ed; exact (Option.some.inj ed).symm
    subst this
    have F3 := F2.same sm
    have gr3 : Gr false O1 H1 O2 H3 := gr2.trans (c' := false) ⟨fun a o e n => ⟨sm a o e, n⟩, fun z => nomatch z⟩
    -- the turn's answer
    unfold forR at e2
    generalize hr : (fg ds[i] g2 fun g' => fb g' .nx) = rt at e2
    have nert : rt ≠ .err := fun z => by subst z; exact Eo'.go.ne e2.symm
    refine ⟨O2, g2, _, rt, ds[i], F3, rp, hr, nert, fun σ4 g4 F4 _ e4 => ?_⟩
    refine ⟨O2, g4, _, rt, F4, e4, ⟨⟨nert, fun cn gx ex cv d' σ5 O5 H5 hcv F5 => ?_⟩, fun s gx ex v σ5 O5 H5 F5 p5 => ?_, fun gx ex σ5 O5 H5 F5 gr5 => ?_, fun gx ex σ5 O5 H5 F5 gr5 => ?_⟩, fun σ5 O5 H5 g5 F5 gr5 e5 => ?_⟩
    · subst ex; exact Eo'.go.ex cn gx e2.symm cv d' σ5 O5 H5 hcv F5
    · subst ex; exact Eo'.rt s gx e2.symm v σ5 O5 H5 F5 p5
    · subst ex
      simp only at e2
      by_cases hl : gx.length = g1.length
      · rw [if_pos hl] at e2
        exact q σ5 O5 H5 _ (F5.mask hl) (gr1.weak.trans (gr3.trans gr5)) e2
      · rw [if_neg hl] at e2; exact absurd e2.symm Eo'.go.ne
    · subst ex
      simp only at e2
      by_cases hl : gx.length = g1.length
      · rw [if_pos hl] at e2
        exact ⟨O5, _, F5.mask hl, gr3.trans gr5, e2⟩
      · rw [if_neg hl] at e2; exact absurd e2.symm Eo'.go.ne
    · have ex : rt = .nx g5 := e5.symm
      subst ex
      simp only at e2
      by_cases hl : g5.length = g1.length
      · rw [if_pos hl] at e2
        exact ⟨O5, _, F5.mask hl, gr3.trans gr5, e2⟩
      · rw [if_neg hl] at e2; exact absurd e2.symm Eo'.go.ne
  · have hi : i = ds.length := by omega
    subst hi
    refine .inl ⟨it.2 (Nat.le_refl _), ?_⟩
    rw [List.drop_length] at e2
    exact q σ2 O2 H2 g2 F2 (gr1.weak.trans gr2) e2⟩
/-! ### while: at most n turns -/
def whileR (ft : DnB) (f : Gam → R) (g0 : Gam) : Nat → Gam → R
  | 0, _ => .err
  | n + 1, g => ft g fun b g' => if b = true then (match f g' with
      | .nx g2 => if g2.length = g0.length then whileR ft f g0 n (mask g0 g2) else .err
      | .ct g2 => if g2.length = g0.length then whileR ft f g0 n (mask g0 g2) else .err
      | .brk g2 => .nx g2
      | .va _ _ => .err
      | r => r) else .nx g'
def whileT (n : Nat) (ft : DnB) (fb : DnT) : DnT := fun g k => thenR (whileR ft (fun g' => fb g' .nx) g n g) k
theorem dt_while {t : Expr} {body : List Stmt} {ft : DnB} {fb : DnT} {pos : Pos} (n : Nat) (hp : PassesOwn (model X.prog X.w) X.A X.env X.xe) (ht : DB X W A c t ft) (hb : DTs X W A body fb) : DT X W A (.While t body [] pos) (whileT n ft fb) := ⟨(ps_while hp ht.pt hb.ps).imp fun D σ H ⟨O, g, k, r, F, e, Eo', q⟩ => by
  refine ⟨fun n σ1 H1 => ∃ O1 g1, FI A O1 σ1 H1 g1 ∧ Gr false O H O1 H1 ∧ thenR (whileR ft (fun g' => fb g' .nx) g n g1) k = r, ⟨n, O, g, F, Gr.refl, e⟩, ?_⟩
  rintro n σ1 H1 ⟨O1, g1, F1, gr1, e1⟩
  cases n with
  | zero => exact absurd e1.symm Eo'.go.ne
  | succ n =>
    unfold whileR at e1
    generalize hr : (ft g1 fun b g' => _) = rt at e1
    have nert : rt ≠ .err := fun z => by subst z; exact Eo'.go.ne e1.symm
    have gort : Go A W rt := ⟨nert, fun cn gx ex cv d' σ5 O5 H5 hcv F5 => by subst ex; exact Eo'.go.ex cn gx e1.symm cv d' σ5 O5 H5 hcv F5⟩
    refine ⟨O1, g1, _, rt, F1, hr, gort, fun b O2 H2 g2 F2 gr2 e2 => ?_⟩
    cases b with
    | false =>
      refine iteF ?_
      have ex : rt = .nx g2 := (by simpa using e2.symm)
      subst ex
      exact q σ1 O2 H2 g2 F2 (gr1.trans gr2) e1
    | true =>
      refine iteT ⟨fun σ' H' => ∃ O3 g3, FI A O3 σ' H' g3 ∧ Gr false O H O3 H' ∧ thenR (whileR ft (fun g' => fb g' .nx) g n g3) k = r, fun σ' H' h => ⟨n, Nat.lt_succ_self n, h⟩, ?_⟩
      simp only [if_true] at e2
      generalize hf : fb g2 .nx = rf at e2
      have nerf : rf ≠ .err := fun z => by subst z; exact nert e2.symm
      refine ⟨O2, g2, _, rf, F2, hf, ⟨⟨nerf, fun cn gx ex cv d' σ5 O5 H5 hcv F5 => ?_⟩, fun s gx ex v σ5 O5 H5 F5 p5 => ?_, fun gx ex σ5 O5 H5 F5 gr5 => ?_, fun gx ex σ5 O5 H5 F5 gr5 => ?_⟩, fun σ5 O5 H5 g5 F5 gr5 e5 => ?_⟩
      · subst ex; exact gort.ex cn gx e2.symm cv d' σ5 O5 H5 hcv F5
      · subst ex; subst e2; exact Eo'.rt s gx e1.symm v σ5 O5 H5 F5 p5
      · subst ex; subst e2; exact q σ5 O5 H5 gx F5 (gr1.trans (gr2.weak.trans gr5)) e1
      · subst ex
        simp only at e2
        by_cases hl : gx.length = g.length
        · rw [if_pos hl] at e2
          subst e2
          exact ⟨O5, _, F5.mask hl, gr1.trans (gr2.weak.trans gr5), e1⟩
        · rw [if_neg hl] at e2; exact absurd e2.symm nert
      · have ex : rf = .nx g5 := e5.symm
        subst ex
        simp only at e2
        by_cases hl : g5.length = g.length
        · rw [if_pos hl] at e2
          subst e2
          exact ⟨O5, _, F5.mask hl, gr1.trans (gr2.weak.trans gr5), e1⟩
        · rw [if_neg hl] at e2; exact absurd e2.symm nert⟩
end
end Z

namespace Z
open PySem L2

/-! ### slots within a comprehension -/
def wipeG (g : Gam) : List Nat → Gam
  | [] => g
  | v :: vs => (wipeG g vs).set v .no
theorem wipeG_length (g : Gam) : ∀ vs : List Nat, (wipeG g vs).length = g.length
  | [] => rfl
  | v :: vs => by unfold wipeG; rw [List.length_set, wipeG_length g vs]
theorem wipeG_get (g : Gam) (i : Nat) : ∀ vs : List Nat, (wipeG g vs)[i]? = if i ∈ vs then (if i < g.length then some .no else none) else g[i]?
  | [] => by simp [wipeG]
  | v :: vs => by
    unfold wipeG
    rw [setIs, wipeG_length, wipeG_get g i vs]
    by_cases h : v = i
    · subst h; simp
    · rw [if_neg h]
      by_cases h2 : i ∈ vs
      · rw [if_pos h2, if_pos (List.mem_cons_of_mem _ h2)]
      · rw [if_neg h2, if_neg (by simp [h2]; exact fun z => h z.symm)]
theorem wipe_get (σ : L2.St) (i : Nat) : ∀ vs : List Nat, (wipe σ vs)[i]? = if i ∈ vs then (if i < σ.length then some none else none) else σ[i]?
  | [] => by simp [wipe]
  | v :: vs => by
    unfold wipe
    rw [setV, wipe_length, wipe_get σ i vs]
    by_cases h : v = i
    · subst h; simp
    · rw [if_neg h]
      by_cases h2 : i ∈ vs
      · rw [if_pos h2, if_pos (List.mem_cons_of_mem _ h2)]
      · rw [if_neg h2, if_neg (by simp [h2]; exact fun z => h z.symm)]
theorem wipe_sm {is vs : List Nat} {σ σ' : L2.St} (s : SmO is (wipe σ vs) σ') (h : ∀ i ∈ is, i ∈ vs) : wipe σ' vs = wipe σ vs := by
  refine List.ext_getElem? fun i => ?_
  have hl : σ'.length = σ.length := s.1.trans (wipe_length σ vs)
  rw [wipe_get, wipe_get, hl]
  by_cases hi : i ∈ vs
  · rw [if_pos hi, if_pos hi]
  · rw [if_neg hi, if_neg hi, s.2 i fun z => hi (h i z), wipe_get, if_neg hi]
def toRf (g : Gam) : Gam := g.map fun s => match s with
  | .ow d => .rf d
  | s => s
/-- what is known behind: own slots as they became -/
def backS : Sl → Sl → Sl
  | .ow _, .rf d => .ow d
  | .rf _, .rf d => .rf d
  | .sh _, .sh d => .sh d
  | .no, .sh d => .sh d
  | _, _ => .no
def back (g g' : Gam) : Gam := List.zipWith backS g g'
/-- an activation within: all that stands now is kept, but for own slots -/
def Act.inner (A : Act) (O : Addr → Prop) (σ : L2.St) (H : Hp) (g : Gam) : Act where
  H0 := H
  O0 := O
  Rf := fun i => match g[i]? with
    | some s => if s.isOw = true then (match σ[i]? with
      | some (some (.ref p)) => some p
      | _ => none) else none
    | none => none
  cls := A.cls
section
variable {A : Act} {O O' : Addr → Prop} {σ σ' : L2.St} {H H' : Hp} {g g' : Gam} {i : Nat} {p : Addr} {d : D}
theorem inner_rf {s : Sl} (h : g[i]? = some s) (o : s.isOw = true) (e : σ[i]? = some (some (.ref p))) : (A.inner O σ H g).Rf i = some p := by
  show (match g[i]? with | some s => _ | none => none) = _
  rw [h]
  simp only [o, e, if_true]
theorem inner_of {i : Nat} (h : (A.inner O σ H g).Rf i = some p) : ∃ s, g[i]? = some s ∧ s.isOw = true ∧ σ[i]? = some (some (.ref p)) := by
  have h : (match g[i]? with | some s => if s.isOw = true then (match σ[i]? with | some (some (.ref p)) => some p | _ => none) else none | none => none) = some p := h
  cases h1 : g[i]? with
  | none => rw [h1] at h; cases h
  | some s =>
    rw [h1] at h
    by_cases h2 : s.isOw = true
    · simp only [h2, if_true] at h
      refine ⟨s, rfl, h2, ?_⟩
      cases h3 : σ[i]? with
      | none => rw [h3] at h; cases h
      | some v =>
        rw [h3] at h
        cases v with
        | none => cases h
        | some v => cases v <;> cases h; rfl
    · simp only [h2] at h
      cases h
theorem toRf_get : (toRf g)[i]? = (g[i]?).map fun s => match s with
  | .ow d => .rf d
  | s => s := by unfold toRf; rw [List.getElem?_map]
theorem FI.enter (F : FI A O σ H g) : FI (A.inner O σ H g) O σ H (toRf g) := by
  refine ⟨fun i d h => ?_, fun i d h => ?_, fun i d h => ?_, fun i j s t p h1 h2 o1 o2 e1 e2 => ?_, fun a o e _ => e, fun a o e => ⟨o, e⟩, fun a h => h, fun a h => .inl h, F.ot, F.ot, fun i p h => ?_, by unfold toRf; rw [List.length_map]; exact F.len⟩
  · rw [toRf_get] at h
    cases h1 : g[i]? with
    | none => rw [h1] at h; cases h
    | some s =>
      rw [h1] at h
      cases s with
      | sh d' => cases h; exact F.sh i _ h1
      | _ => cases h
  · rw [toRf_get] at h
    cases h1 : g[i]? with
    | none => rw [h1] at h; cases h
    | some s => rw [h1] at h; cases s <;> cases h
  · rw [toRf_get] at h
    cases h1 : g[i]? with
    | none => rw [h1] at h; cases h
    | some s =>
      rw [h1] at h
      cases s with
      | ow d' =>
        cases h
        obtain ⟨p, e, _, _, r⟩ := F.ow i _ h1
        exact ⟨p, inner_rf h1 rfl e, e, r⟩
      | rf d' =>
        cases h
        obtain ⟨p, _, e, r⟩ := F.rf i _ h1
        exact ⟨p, inner_rf h1 rfl e, e, r⟩
      | _ => cases h
  · have bk : ∀ {i : Nat} {s : Sl}, (toRf g)[i]? = some s → s.isOw = true → ∃ s0, g[i]? = some s0 ∧ s0.isOw = true := fun {i s} h o => by
      rw [toRf_get] at h
      cases h1 : g[i]? with
      | none => rw [h1] at h; cases h
      | some s0 =>
        rw [h1] at h
        refine ⟨s0, rfl, ?_⟩
        cases s0 with
        | no => cases h; cases o
        | sh _ => cases h; cases o
        | ow _ => rfl
        | rf _ => rfl
    obtain ⟨s1, q1, q2⟩ := bk h1 o1
    obtain ⟨s2, q3, q4⟩ := bk h2 o2
    exact F.inj i j s1 s2 p q1 q3 q2 q4 e1 e2
  · obtain ⟨s, h1, o, e⟩ := inner_of h
    obtain ⟨q, e', ho, _⟩ := F.at h1 o
    rw [e] at e'
    have : p = q := by injection e' with z; injection z with z; injection z
    rw [this]; exact ho
/-- what an inner activation keeps -/
theorem FI.grIn (F : FI A O σ H g) (I : FI (A.inner O σ H g) O' σ' H' g') : Gr false O H O' H' := by
  refine ⟨fun a o e n => ?_, fun z => nomatch z⟩
  refine ⟨I.keep a o e fun i z => ?_, fun q => ?_⟩
  · obtain ⟨s, h1, ow, es⟩ := inner_of z
    obtain ⟨q, e', ho, _⟩ := F.at h1 ow
    rw [es] at e'
    have : a = q := by injection e' with z; injection z with z; injection z
    exact n (by rw [this]; exact ho)
  · rcases I.fr a q with z | z
    · exact n z
    · have z : H a = none := z
      rw [z] at e; cases e
theorem back_get : (back g g')[i]? = (match g[i]?, g'[i]? with
  | some a, some b => some (backS a b)
  | _, _ => none) := by
  unfold back
  rw [List.getElem?_zipWith]
  cases g[i]? <;> cases g'[i]? <;> rfl
theorem FI.leave (F : FI A O σ H g) (I : FI (A.inner O σ H g) O' σ' H' g') (hl : g'.length = g.length) (hσ : ∀ (j : Nat) (s : Sl), g[j]? = some s → s ≠ .no → σ'[j]? = σ[j]?) : FI A O' σ' H' (back g g') := by
  have get : ∀ {i : Nat} {s : Sl}, (back g g')[i]? = some s → ∃ a b, g[i]? = some a ∧ g'[i]? = some b ∧ s = backS a b := fun {i s} h => by
    rw [back_get] at h
    cases h1 : g[i]? with
    | none => rw [h1] at h; cases h
    | some a =>
      cases h2 : g'[i]? with
      | none => rw [h1, h2] at h; cases h
      | some b => rw [h1, h2] at h; cases h; exact ⟨a, b, rfl, rfl, rfl⟩
  have rfAt : ∀ {i : Nat} {d : D}, g'[i]? = some (.rf d) → ∃ p s, g[i]? = some s ∧ s.isOw = true ∧ σ[i]? = some (some (.ref p)) ∧ σ'[i]? = some (some (.ref p)) ∧ RpO O' H' p d := fun {i d} h => by
    obtain ⟨p, er, e, r⟩ := I.rf i d h
    obtain ⟨s, h1, o, e'⟩ := inner_of er
    exact ⟨p, s, h1, o, e', e, r⟩
  refine ⟨fun i d h => ?_, fun i d h => ?_, fun i d h => ?_, fun i j s t p h1 h2 o1 o2 e1 e2 => ?_, fun a o e na => ?_, fun a o e => ?_, fun a h => I.up a (F.up a h), fun a h => ?_, F.o0, I.ot, F.r0, by unfold back; rw [List.length_zipWith, hl, Nat.min_self, ← hl]; exact I.len⟩
  · obtain ⟨a, b, h1, h2, e⟩ := get h
    cases a <;> cases b <;> cases e <;> exact I.sh i _ h2
  · obtain ⟨a, b, h1, h2, e⟩ := get h
    cases a with
    | ow d0 =>
      cases b with
      | rf d1 =>
        cases e
        obtain ⟨p, s, q1, q2, q3, q4, q5⟩ := rfAt h2
        obtain ⟨p', e', ho, n, _⟩ := F.ow i _ h1
        rw [q3] at e'
        have : p = p' := by injection e' with z; injection z with z; injection z
        subst this
        exact ⟨p, q4, I.up p ho, n, q5⟩
      | _ => cases e
    | _ => cases b <;> cases e
  · obtain ⟨a, b, h1, h2, e⟩ := get h
    cases a with
    | rf d0 =>
      cases b with
      | rf d1 =>
        cases e
        obtain ⟨p, s, q1, q2, q3, q4, q5⟩ := rfAt h2
        obtain ⟨p', er, e', _⟩ := F.rf i _ h1
        rw [q3] at e'
        have : p = p' := by injection e' with z; injection z with z; injection z
        subst this
        exact ⟨p, er, q4, q5⟩
      | _ => cases e
    | _ => cases b <;> cases e
  · obtain ⟨a, b, h1', h2', e⟩ := get h1
    obtain ⟨a2, b2, h3', h4', e'⟩ := get h2
    have rf : ∀ {a b s : Sl}, s = backS a b → s.isOw = true → b.isOw = true := fun {a b s} e o => by
      subst e; cases a <;> cases b <;> first | rfl | cases o
    exact I.inj i j b b2 p h2' h4' (rf e o1) (rf e' o2) e1 e2
  · refine I.keep a o (F.keep a o e na) fun i z => ?_
    obtain ⟨s, h1, ow, es⟩ := inner_of z
    cases s with
    | no => cases ow
    | sh _ => cases ow
    | ow d =>
      obtain ⟨q, e', _, n, _⟩ := F.ow i d h1
      rw [es] at e'
      have : a = q := by injection e' with z; injection z with z; injection z
      subst this; rw [n] at e; cases e
    | rf d =>
      obtain ⟨q, er, e', _⟩ := F.rf i d h1
      rw [es] at e'
      have : a = q := by injection e' with z; injection z with z; injection z
      subst this; exact na i er
  · obtain ⟨o1, e1⟩ := F.tr a o e
    exact I.tr a o1 e1
  · rcases I.fr a h with z | z
    · exact F.fr a z
    · exact .inr (F.h0 z)
/-- slots of which nothing is known may be anything -/
theorem FI.slots (F : FI A O σ H g) (hl : σ'.length = σ.length) (h : ∀ (j : Nat) (s : Sl), g[j]? = some s → s ≠ .no → σ'[j]? = σ[j]?) : FI A O σ' H g := by
  refine ⟨fun i d hs => ?_, fun i d hs => ?_, fun i d hs => ?_, fun i j s t p h1 h2 o1 o2 e1 e2 => ?_, F.keep, F.tr, F.up, F.fr, F.o0, F.ot, F.r0, F.len.trans hl.symm⟩
  · rw [h i _ hs (fun z => nomatch z)]; exact F.sh i d hs
  · rw [h i _ hs (fun z => nomatch z)]; exact F.ow i d hs
  · rw [h i _ hs (fun z => nomatch z)]; exact F.rf i d hs
  · rw [h i _ h1 (fun z => by subst z; cases o1)] at e1
    rw [h j _ h2 (fun z => by subst z; cases o2)] at e2
    exact F.inj i j s t p h1 h2 o1 o2 e1 e2
theorem FI.wipeG (F : FI A O σ H g) (vs : List Nat) : FI A O σ H (Z.wipeG g vs) := F.forget (wipeG_length g vs) fun i s h => by
  rw [wipeG_get] at h
  split at h
  · split at h
    · cases h; exact .inl rfl
    · cases h
  · exact .inr h
theorem FI.wipe (F : FI A O σ H g) (vs : List Nat) : FI A O (L2.wipe σ vs) H (Z.wipeG g vs) := (F.wipeG vs).slots (wipe_length σ vs) fun j s h n => by
  rw [wipeG_get] at h
  rw [wipe_get]
  by_cases hj : j ∈ vs
  · rw [if_pos hj] at h
    split at h
    · cases h; exact absurd rfl n
    · cases h
  · rw [if_neg hj]
def NoSl (σ : L2.St) (g : Gam) (p : Addr) : Prop := ∀ (i : Nat) (s : Sl), g[i]? = some s → s.isOw = true → σ[i]? ≠ some (some (.ref p))
/-- an own object that is none of the slots' is changed -/
theorem FI.writeT (F : FI A O σ H g) {o : HO} (ho : O p) (n : A.H0 p = none) (ns : NoSl σ g p) : FI A O σ (upd H p o) g := by
  have mv := mv_write (H := H) (o := o) ho
  refine ⟨fun i d h => ?_, fun i d h => ?_, fun i d h => ?_, F.inj, fun a o' e na => ?_, fun a o' e => ?_, F.up, F.fr, F.o0, fun a h => ?_, F.r0, F.len⟩
  · obtain ⟨v, e, r⟩ := F.sh i d h; exact ⟨v, e, Rp.move mv _ _ r⟩
  · obtain ⟨q, e, hq, nq, r⟩ := F.ow i d h
    exact ⟨q, e, hq, nq, r.move mv fun o' e' => by rw [upd_ne (fun z => ns i _ h rfl (by rw [e, z]))]; exact e'⟩
  · obtain ⟨q, er, e, r⟩ := F.rf i d h
    exact ⟨q, er, e, r.move mv fun o' e' => by rw [upd_ne (fun z => ns i _ h rfl (by rw [e, z]))]; exact e'⟩
  · rw [upd_ne (fun z => by subst z; rw [n] at e; cases e)]; exact F.keep a o' e na
  · by_cases z : a = p
    · subst z; exact ⟨o, upd_same⟩
    · rw [upd_ne z]; exact F.tr a o' e
  · by_cases z : a = p
    · subst z; exact ⟨o, upd_same⟩
    · rw [upd_ne z]; exact F.ot a h
end
/-- no slot of vs is an own one -/
def okW (vs : List Nat) (g : Gam) : Bool := vs.all fun i => match g[i]? with
  | some s => !s.isOw
  | none => false
/-- the slots of vs as they were, the others as they are -/
def restW (vs : List Nat) (g1 g2 : Gam) : Gam := (List.range g2.length).map fun i => if i ∈ vs then (g1[i]?).getD .no else (g2[i]?).getD .no
def compR (f : D → Gam → R) (vs : List Nat) : List D → Gam → List D → Option (List D × Gam)
  | [], g, acc => some (acc, g)
  | d :: ds, g, acc => match f d (toRf g) with
    | .va (.sh y) g' => if g'.length = g.length then compR f vs ds (wipeG (back g g') vs) (acc ++ [y]) else none
    | .nx g' => if g'.length = g.length then compR f vs ds (wipeG (back g g') vs) acc else none
    | _ => none
/-- one turn: the target, the test, the element -/
def turnC (fg : DnG) (ft : DnB) (fe : DnD) : D → Gam → R := fun d g => fg d g fun g' => ft g' fun b g2 => if b = true then fe g2 fun y g3 => .va (.sh y) g3 else .nx g2
def lcC (vs : List Nat) (fi : DnL) (fg : DnG) (ft : DnB) (fe : DnD) : DnS := fun g k => fi g fun ds g1 => if okW vs g1 = true then (match compR (turnC fg ft fe) vs ds (wipeG g1 vs) [] with
  | some (out, g2) => k (.ow (.list out)) (restW vs g1 g2)
  | none => .err) else .err
def yesB : DnB := fun g k => k true g
/-- a clause's tests -/
structure DTss (X : Cx) (W : WX) (A : Act) (c : Bool) (ifs : List Expr) (f : DnB) : Prop where
  pt : PTs X ifs (tGT A W c f)
def W0 : WX := fun _ _ _ _ => False
section
variable {X : Cx} {W : WX} {A : Act} {c ca cb m m' : Bool} {e a b tg elt iter : Expr} {O : Addr → Prop} {H : Hp}
theorem _root_.L2.PTs.imp {es : List Expr} {t t' : TT} (h : PTs X es t) (w : ∀ σ H Q, t' σ H Q → t σ H Q) : PTs X es t' := ⟨fun pins s σ H Q I q => h.run pins s σ H Q I (w σ H Q q)⟩
theorem dts_yes : DTss X W A true [] yesB := ⟨pts_nil.imp fun σ H Q ⟨O, g, k, r, F, e, G, q⟩ => q true O H g F Gr.refl e⟩
theorem dts_if {t : Expr} {f : DnB} (h : DB X W A c t f) : DTss X W A c [t] f := ⟨pts_one h.pt⟩
/-- the state between two turns -/
structure LcS (A : Act) (vs : List Nat) (O1 : Addr → Prop) (H1 : Hp) (D0 : Addr) (σ : L2.St) (i : Nat) (H : Hp) (O : Addr → Prop) (g : Gam) (out : List D) (acc : List V) : Prop where
  F : FI A O σ H g
  gr : Gr false O1 H1 O H
  d : O D0
  dn : A.H0 D0 = none
  ds : NoSl σ g D0
  hd : H D0 = some (.lst acc)
  rp : RpAll O H out acc
  le : acc.length ≤ i
  wn : ∀ (j : Nat) (s : Sl), j ∈ vs → g[j]? = some s → s = .no
/-- an item of the new list, behind a turn -/
theorem LcS.keep {O1 : Addr → Prop} {H1 : Hp} {D0 : Addr} {σ σ' : L2.St} {i : Nat} {H H4 : Hp} {O O4 : Addr → Prop} {g g' : Gam} {out : List D} {acc : List V} {vs : List Nat} (S : LcS A vs O1 H1 D0 σ i H O g out acc)
    (I : FI (A.inner O σ H g) O4 σ' H4 g') (hl : g'.length = g.length) (hσ : ∀ j : Nat, j ∉ vs → σ'[j]? = σ[j]?) :
    H4 D0 = some (.lst acc) ∧ FI A O4 σ H4 (wipeG (back g g') vs) ∧ NoSl σ (wipeG (back g g') vs) D0 ∧ (∀ (j : Nat) (s : Sl), j ∈ vs → (wipeG (back g g') vs)[j]? = some s → s = .no) := by
  have hlen : σ'.length = σ.length := by rw [← I.len, hl, S.F.len]
  have Fb := S.F.leave I hl fun j s h n => hσ j fun z => n (S.wn j s z h)
  refine ⟨I.keep D0 _ S.hd fun j z => ?_, (Fb.wipeG vs).slots hlen.symm fun j s h n => ?_, fun j s h o => ?_, fun j s hj h => ?_⟩
  · obtain ⟨s, h1, o, e⟩ := inner_of z
    exact S.ds j s h1 o e
  · rw [wipeG_get] at h
    by_cases hj : j ∈ vs
    · rw [if_pos hj] at h
      split at h
      · cases h; exact absurd rfl n
      · cases h
    · exact (hσ j hj).symm
  · rw [wipeG_get] at h
    by_cases hj : j ∈ vs
    · rw [if_pos hj] at h
      split at h
      · cases h; cases o
      · cases h
    · rw [if_neg hj, back_get] at h
      cases h1 : g[j]? with
      | none => rw [h1] at h; cases h
      | some s0 =>
        cases h2 : g'[j]? with
        | none => rw [h1, h2] at h; cases h
        | some s1 =>
          rw [h1, h2] at h
          have ow : s0.isOw = true := by
            cases h
            cases s0 <;> cases s1 <;> first | rfl | cases o
          exact S.ds j s0 h1 ow
  · rw [wipeG_get, if_pos hj] at h
    split at h
    · cases h; rfl
    · cases h
theorem LcS.add {O1 : Addr → Prop} {H1 : Hp} {D0 : Addr} {σ σ' : L2.St} {i : Nat} {H H4 : Hp} {O O4 : Addr → Prop} {g g' : Gam} {out : List D} {acc : List V} {d : D} {y : V} {vs : List Nat} (S : LcS A vs O1 H1 D0 σ i H O g out acc)
    (I : FI (A.inner O σ H g) O4 σ' H4 g') (hl : g'.length = g.length) (hσ : ∀ j : Nat, j ∉ vs → σ'[j]? = σ[j]?) (r : Rp O4 H4 d y) :
    H4 D0 = some (.lst acc) ∧ LcS A vs O1 H1 D0 σ (i + 1) (upd H4 D0 (.lst (acc ++ [y]))) O4 (wipeG (back g g') vs) (out ++ [d]) (acc ++ [y]) := by
  obtain ⟨hD, Fw, ns, wn⟩ := S.keep I hl hσ
  have gr4 := S.F.grIn I
  have hO4 : O4 D0 := I.up D0 S.d
  have mv := mv_write (H := H4) (o := .lst (acc ++ [y])) hO4
  exact ⟨hD, Fw.writeT hO4 S.dn ns, S.gr.trans (gr4.trans (Gr.write (c := false) hO4)), hO4, S.dn, ns, upd_same, RpAll.move mv _ _ ((gr4.rpAll S.rp).append (RpAll.cons r RpAll.nil)), (by rw [List.length_append]; exact Nat.succ_le_succ S.le), wn⟩
theorem LcS.skip {O1 : Addr → Prop} {H1 : Hp} {D0 : Addr} {σ σ' : L2.St} {i : Nat} {H H4 : Hp} {O O4 : Addr → Prop} {g g' : Gam} {out : List D} {acc : List V} {vs : List Nat} (S : LcS A vs O1 H1 D0 σ i H O g out acc)
    (I : FI (A.inner O σ H g) O4 σ' H4 g') (hl : g'.length = g.length) (hσ : ∀ j : Nat, j ∉ vs → σ'[j]? = σ[j]?) : LcS A vs O1 H1 D0 σ (i + 1) H4 O4 (wipeG (back g g') vs) out acc := by
  obtain ⟨hD, Fw, ns, wn⟩ := S.keep I hl hσ
  exact ⟨Fw, S.gr.trans (S.F.grIn I), I.up D0 S.d, S.dn, ns, hD, (S.F.grIn I).rpAll S.rp, Nat.le_succ_of_le S.le, wn⟩
theorem tGI_weak {fi : DnL} {σ : L2.St} {H : Hp} {Q : It → Hp → Prop} (h : tGI A W false fi σ H Q) : tGI A W c fi σ H Q := by
  obtain ⟨O, g, k, r, F, e, G, q⟩ := h
  exact ⟨O, g, k, r, F, e, G, fun J ds O' H' g' F' gr io hz e' => q J ds O' H' g' F' gr.weak io hz e'⟩
/-- a comprehension's reading: wi the items, gt the target, tt the tests, te the element, each in its own activation -/
theorem lc_reads {vs is : List Nat} {fi : DnL} {fg : DnG} {ft : DnB} {fe : DnD} (hv : ∀ i ∈ is, i ∈ vs) {σ : L2.St} {H : Hp} {Q : VK} (h : tG A W false (pF A) (lcC vs fi fg ft fe) σ H Q) {wi : TI} {gt : TG} {tt : TT} {te : TE}
    (hi : ∀ σ H Q, tGI A W false fi σ H Q → wi σ H Q) (hg : ∀ (A' : Act) v σ H Q, tGG A' is fg v σ H Q → gt v σ H Q) (ht : ∀ (A' : Act) σ H Q, tGT A' W0 ca ft σ H Q → tt σ H Q) (he : ∀ (A' : Act) σ H Q, tG A' W0 cb pS fe σ H Q → te σ H Q) :
    tLc wi gt tt te vs σ H Q := by
  obtain ⟨O, g, k, r, F, e, G, q⟩ := h
  refine hi _ _ _ ⟨O, g, _, r, F, e, G, fun J ds O1 H1 g1 F1 gr1 io hz e1 => ?_⟩
  by_cases hw : okW vs g1 = true
  case neg => rw [if_neg hw] at e1; exact absurd e1.symm G.ne
  rw [if_pos hw] at e1
  intro D0 hD0
  have hw' : ∀ j ∈ vs, ∃ s, g1[j]? = some s ∧ s.isOw = false := fun j hj => by
    have := List.all_eq_true.mp hw j hj
    cases h1 : g1[j]? with
    | none => rw [h1] at this; cases this
    | some s => rw [h1] at this; exact ⟨s, rfl, by simpa using this⟩
  -- what is left to do
  let σw := wipe σ vs
  have hfin : ∀ {H2 : Hp} {O2 : Addr → Prop} {g2 : Gam} {out : List D} {acc : List V}, LcS A vs O1 H1 D0 σw ds.length H2 O2 g2 out acc → k (.ow (.list out)) (restW vs g1 g2) = r → Q (.ref D0) H2 := fun {H2 O2 g2 out acc} S e2 => by
    have hl2 : g2.length = g1.length := by rw [S.F.len, F1.len]; exact wipe_length σ vs
    have getR : ∀ {j : Nat} {s : Sl}, (restW vs g1 g2)[j]? = some s → if j ∈ vs then g1[j]? = some s else g2[j]? = some s := fun {j s} h => by
      unfold restW at h
      rw [List.getElem?_map] at h
      by_cases hj : j < g2.length
      · rw [List.getElem?_range hj] at h
        have h : (if j ∈ vs then (g1[j]?).getD .no else (g2[j]?).getD .no) = s := Option.some.inj h
        by_cases hv : j ∈ vs
        · rw [if_pos hv] at h ⊢
          rw [List.getElem?_eq_getElem (by omega)] at h ⊢
          rw [← h]; rfl
        · rw [if_neg hv] at h ⊢
          rw [List.getElem?_eq_getElem hj] at h ⊢
          rw [← h]; rfl
      · rw [List.getElem?_eq_none (by simpa using hj)] at h; cases h
    have Fr : FI A O2 σ H2 (restW vs g1 g2) := by
      have ow : ∀ {j : Nat} {s : Sl}, (restW vs g1 g2)[j]? = some s → s.isOw = true → g2[j]? = some s ∧ σ[j]? = σw[j]? := fun {j s} h o => by
        have h2 := getR h
        by_cases hv : j ∈ vs
        · rw [if_pos hv] at h2
          obtain ⟨s', e', o'⟩ := hw' j hv
          rw [h2] at e'; cases e'; rw [o'] at o; cases o
        · rw [if_neg hv] at h2
          exact ⟨h2, by show _ = (wipe σ vs)[j]?; rw [wipe_get, if_neg hv]⟩
      refine ⟨fun j d h => ?_, fun j d h => ?_, fun j d h => ?_, fun i j s t p h1 h2 o1 o2 e1 e2 => ?_, S.F.keep, S.F.tr, S.F.up, S.F.fr, S.F.o0, S.F.ot, S.F.r0, ?_⟩
      · have h2 := getR h
        by_cases hv : j ∈ vs
        · rw [if_pos hv] at h2
          obtain ⟨v, ev, rv⟩ := F1.sh j d h2
          exact ⟨v, ev, S.gr.rp rv⟩
        · rw [if_neg hv] at h2
          obtain ⟨v, ev, rv⟩ := S.F.sh j d h2
          refine ⟨v, ?_, rv⟩
          rw [← ev]
          show _ = (wipe σ vs)[j]?
          rw [wipe_get, if_neg hv]
      · obtain ⟨h2, eσ⟩ := ow h rfl
        rw [eσ]; exact S.F.ow j d h2
      · obtain ⟨h2, eσ⟩ := ow h rfl
        rw [eσ]; exact S.F.rf j d h2
      · obtain ⟨q1, z1⟩ := ow h1 o1
        obtain ⟨q2, z2⟩ := ow h2 o2
        rw [z1] at e1; rw [z2] at e2
        exact S.F.inj i j s t p q1 q2 o1 o2 e1 e2
      · unfold restW
        rw [List.length_map, List.length_range, hl2]
        exact F1.len
    refine q _ (.ow (.list out)) O2 H2 _ Fr (gr1.weak.trans S.gr) ⟨D0, rfl, S.d, S.dn, ⟨acc, S.hd, S.rp⟩, fun j s h o z => ?_⟩ e2
    have h2 := getR h
    by_cases hv : j ∈ vs
    · rw [if_pos hv] at h2
      obtain ⟨s', e', o'⟩ := hw' j hv
      rw [h2] at e'; cases e'; rw [o'] at o; cases o
    · rw [if_neg hv] at h2
      refine S.ds j s h2 o ?_
      show (wipe σ vs)[j]? = _
      rw [wipe_get, if_neg hv]; exact z
  refine ⟨fun i n H2 => n = ds.length - i ∧ i ≤ ds.length ∧ ∃ O2 g2 out acc, LcS A vs O1 H1 D0 σw i H2 O2 g2 out acc ∧ (match compR (turnC fg ft fe) vs (ds.drop i) g2 out with
    | some (out, g2) => k (.ow (.list out)) (restW vs g1 g2)
    | none => .err) = r, ⟨ds.length, rfl, Nat.zero_le _, Oadd O1 D0, wipeG g1 vs, [], [], ⟨?_, ?_, .inr rfl, F1.h0 hD0, ?_, upd_same, rfl, Nat.zero_le _, ?_⟩, e1⟩, ?_⟩
  · exact (F1.own hD0).wipe vs
  · exact ⟨fun a o ea n => ⟨same_new hD0 a o ea, fun z => z.elim n fun z => by subst z; rw [hD0] at ea; cases ea⟩, fun z => nomatch z⟩
  · intro j s h o z
    have Fw := F1.wipe vs
    exact Fw.free hD0 j s h o z
  · intro j s hj h
    rw [wipeG_get, if_pos hj] at h
    split at h
    · cases h; rfl
    · cases h
  rintro i n H2 ⟨rfl, hi2, O2, g2, out, acc, S, e2⟩
  have it := io O2 H2 S.gr S.F.ot i
  by_cases hlt : i < ds.length
  · obtain ⟨go, step⟩ := it.1 hlt
    have hd : ds.drop i = ds[i] :: ds.drop (i + 1) := List.drop_eq_getElem_cons hlt
    rw [hd] at e2
    unfold compR at e2
    refine .inr ⟨go, fun H' => ∃ O3 g3 out3 acc3, LcS A vs O1 H1 D0 σw (i + 1) H' O3 g3 out3 acc3 ∧ (match compR (turnC fg ft fe) vs (ds.drop (i + 1)) g3 out3 with
      | some (out, g2) => k (.ow (.list out)) (restW vs g1 g2)
      | none => .err) = r, fun H' h' => ⟨ds.length - (i + 1), by omega, rfl, hlt, h'⟩, fun x H3 y => ?_⟩
    obtain ⟨d, ed, sm, rp⟩ := step x H3 y
    have : d = ds[i] := by rw [List.getElem?_eq_getElem hlt] at ed; exact (Option.some.inj ed).symm
    subst this
    have S3 : LcS A vs O1 H1 D0 σw i H3 O2 g2 out acc := ⟨S.F.same sm, S.gr.trans (c' := false) ⟨fun a o e n => ⟨sm a o e, n⟩, fun z => nomatch z⟩, S.d, S.dn, S.ds, sm _ _ S.hd, RpAll.move (fun a o e n => ⟨sm a o e, n⟩) _ _ S.rp, S.le, S.wn⟩
    have Fi := S3.F.enter
    generalize hr : turnC fg ft fe ds[i] (toRf g2) = rt at e2
    have nert : rt ≠ .err := fun z => by subst z; exact G.ne e2.symm
    have noex : ∀ (A' : Act), Go A' W0 rt := fun A' => ⟨nert, fun cn gx ex cv d' σ5 O5 H5 hcv F5 => by subst ex; exact G.ne e2.symm⟩
    refine hg (A.inner O2 σw H3 g2) _ _ _ _ ⟨O2, toRf g2, _, rt, ds[i], Fi, rp, hr, nert, fun σ4 g4 F4 sm4 e4 => ⟨wipe_sm sm4 hv, ?_⟩⟩
    have hσ4 : ∀ j : Nat, j ∉ vs → σ4[j]? = σw[j]? := fun j hj => sm4.2 j fun z => hj (hv j z)
    refine ht (A.inner O2 σw H3 g2) _ _ _ ⟨O2, g4, _, rt, F4, e4, noex _, fun b O5 H5 g5 F5 gr5 e5 => ?_⟩
    have lenOf : ∀ {O6 : Addr → Prop} {H6 : Hp} {g6 : Gam}, FI (A.inner O2 σw H3 g2) O6 σ4 H6 g6 → g6.length = g2.length := fun {O6 H6 g6} F6 => by
      rw [F6.len, S3.F.len]; exact sm4.1
    cases b with
    | false =>
      refine iteF ?_
      have ex : rt = .nx g5 := by simpa using e5.symm
      subst ex
      have hl := lenOf F5
      simp only [hl, if_true] at e2
      exact ⟨O5, _, out, acc, S3.skip F5 hl hσ4, e2⟩
    | true =>
      refine iteT ?_
      refine he (A.inner O2 σw H3 g2) _ _ _ ⟨O5, g5, _, rt, F5, by simpa using e5, noex _, fun y d O6 H6 g6 F6 gr6 p6 e6 => ?_⟩
      have ex : rt = .va (.sh d) g6 := e6.symm
      subst ex
      have hl := lenOf F6
      simp only [hl, if_true] at e2
      obtain ⟨hD, S6⟩ := S3.add F6 hl hσ4 p6
      exact ⟨acc, hD, Nat.lt_of_le_of_lt S3.le (Nat.lt_of_lt_of_le hlt hz), O6, _, _, _, S6, e2⟩
  · have hi : i = ds.length := by omega
    subst hi
    rw [List.drop_length] at e2
    exact .inl ⟨it.2 (Nat.le_refl _), hfin S e2⟩
theorem pg_ex {is : List Nat} {fg : DnG} (h : ∀ A', DG X A' is tg fg) : PG X tg (fun v σ H Q => ∃ A', tGG A' is fg v σ H Q) := ⟨fun pins s σ H v u Q I r ⟨A', q⟩ => (h A').pg.run pins s σ H v u Q I r q⟩
theorem pts_ex {ifs : List Expr} {ft : DnB} (h : ∀ A', DTss X W A' c ifs ft) : PTs X ifs (fun σ H Q => ∃ A', tGT A' W c ft σ H Q) := ⟨fun pins s σ H Q I ⟨A', q⟩ => (h A').pt.run pins s σ H Q I q⟩
theorem pe_ex {fe : DnD} (h : ∀ A', DS X W A' c e fe) : PE X e (fun σ H Q => ∃ A', tG A' W c pS fe σ H Q) := ⟨fun pins s σ H Q I ⟨A', q⟩ => (h A').pe.run pins s σ H Q I q⟩
/-- the context of a comprehension's block -/
abbrev Blk (X : Cx) (scope : Scope) (P : Cx → Prop) : Prop := ∀ (s : Shared) (H : Hp) (C : Addr) (cl : List (Str × Addr)) (fp : List Addr), P (X.blk s H scope (compEnvC scope cl C X.env) fp)
/-- [elt for tg in iter if ..] -/
theorem df_lc {ifs : List Expr} {scope : Scope} {own : List (Str × Nat)} {pos : Pos} {fi : DnL} {fg : DnG} {ft : DnB} {fe : DnD} {is : List Nat} (hc : X.calm = true) (hN : X.N.Nodup) (hi : DI X W A c tg iter fi) (ok : BlkOk X.N X.env.scope scope own) (hv : ∀ i ∈ is, i ∈ own.map (·.2))
    (hg : Blk X scope fun Y => ∀ A', DG Y A' is tg fg) (ht : Blk X scope fun Y => ∀ A', DTss Y W0 A' ca ifs ft) (he : Blk X scope fun Y => ∀ A', DS Y W0 A' cb elt fe) (hs : ∀ x, foldedSetIterable iter X.env x = pure x := by intro _; rfl) :
    DF X W A false (.ListComp elt [⟨tg, iter, ifs, 0⟩] scope pos) (lcC (own.map (·.2)) fi fg ft fe) :=
  ⟨(pe_lc hc hN hi.pi ok (fun s H C cl fp => pg_ex (hg s H C cl fp)) (fun s H C cl fp => pts_ex (ht s H C cl fp)) (fun s H C cl fp => pe_ex (he s H C cl fp)) hs).imp fun σ H Q h =>
    lc_reads hv h (fun _ _ _ h => tGI_weak h) (fun A' _ _ _ _ h => ⟨A', h⟩) (fun A' _ _ _ h => ⟨A', h⟩) fun A' _ _ _ h => ⟨A', h⟩⟩
/-- name = [..] on one line -/
theorem dt_setLc {i : Nat} {y : Str} {py : Pos} {ifs : List Expr} {scope : Scope} {own : List (Str × Nat)} {pos spos : Pos} {fi : DnL} {fg : DnG} {ft : DnB} {fe : DnD} {is : List Nat} (hc : X.calm = true) (hN : X.N.Nodup) (hy : X.N[i]? = some y) (hyl : X.env.scope.names.lookup y = some .local)
    (hsw : swapsWith (.ListComp elt [⟨tg, iter, ifs, 0⟩] scope pos) (some (.Name y py)) spos.line X.env = pure true) (hi : DI X W A c tg iter fi) (ok : BlkOk X.N X.env.scope scope own) (hv : ∀ i ∈ is, i ∈ own.map (·.2))
    (hg : Blk X scope fun Y => ∀ A', DG Y A' is tg fg) (ht : Blk X scope fun Y => ∀ A', DTss Y W0 A' ca ifs ft) (he : Blk X scope fun Y => ∀ A', DS Y W0 A' cb elt fe) (hs : ∀ x, foldedSetIterable iter X.env x = pure x := by intro _; rfl) :
    DT X W A (.Assign [.Name y py] (.ListComp elt [⟨tg, iter, ifs, 0⟩] scope pos) spos) (asgT i (lcC (own.map (·.2)) fi fg ft fe)) :=
  dt_asg (c := false) (ps_setLc hc hN hy hyl hsw hi.pi ok (fun s H C cl fp => pg_ex (hg s H C cl fp)) (fun s H C cl fp => pts_ex (ht s H C cl fp)) (fun s H C cl fp => pe_ex (he s H C cl fp)) hs) fun σ H Q h =>
    lc_reads hv h (fun _ _ _ h => tGI_weak h) (fun A' _ _ _ _ h => ⟨A', h⟩) (fun A' _ _ _ h => ⟨A', h⟩) fun A' _ _ _ h => ⟨A', h⟩
end
end Z

namespace Z
open PySem L2

/-! ### defs -/
inductive Rs where
  | ok (s : Sl) (rs : List D) | exc (c : Nat) | err
abbrev Fd := List D → Rs
/-- the slots at the entry: rf the parameters that are changed in place -/
def startG (rf : List Nat) : Nat → List D → Gam
  | _, [] => []
  | i, d :: ds => (if i ∈ rf then .rf d else .sh d) :: startG rf (i + 1) ds
def refsG (g : Gam) : List Nat → Option (List D)
  | [] => some []
  | i :: is => match g[i]?, refsG g is with
    | some (.rf d), some ds => some (d :: ds)
    | _, _ => none
def endR (rf : List Nat) : R → Rs
  | .ret s g => match refsG g rf with
    | some rs => .ok s rs
    | none => .err
  | .exc c _ => match rf with
    | [] => .exc c
    | _ :: _ => .err
  | _ => .err
/-- a def: its number of slots, the parameters that it changes, its body -/
def fnD (n : Nat) (rf : List Nat) (f : DnT) : Fd := fun ds => endR rf (f (startG rf 0 ds ++ List.replicate (n - ds.length) .no) fun g => .ret (.sh .none) g)

/-- the arguments -/
structure ArgsOk (O : Addr → Prop) (H : Hp) (rf : List Nat) (vs : List V) (ds : List D) : Prop where
  len : vs.length = ds.length
  sh : ∀ (i : Nat) (d : D), i ∉ rf → ds[i]? = some d → ∃ v, vs[i]? = some v ∧ Rp O H d v
  rg : ∀ (i : Nat) (d : D), i ∈ rf → ds[i]? = some d → ∃ p, vs[i]? = some (.ref p) ∧ O p ∧ RpO O H p d
  inj : ∀ (i j : Nat) (p : Addr), i ∈ rf → j ∈ rf → vs[i]? = some (.ref p) → vs[j]? = some (.ref p) → i = j
/-- what is promised of the value -/
def ValOk (O : Addr → Prop) (H H' : Hp) (v : V) : Sl → Prop
  | .sh d => Rp O H' d v
  | .ow d => ∃ p, v = .ref p ∧ O p ∧ H p = none ∧ RpO O H' p d
  | _ => False
def RefsOk (O : Addr → Prop) (H : Hp) (vs : List V) : List Nat → List D → Prop
  | [], rs => rs = []
  | i :: is, rs => ∃ d ds p, rs = d :: ds ∧ vs[i]? = some (.ref p) ∧ RpO O H p d ∧ RefsOk O H vs is ds
/-- the promise: the value is what the denotation tells; all that stood stands, but for what is changed in place -/
def spD (cls : Nat → Option Value) (n : Nat) (rf : List Nat) (φ : Fd) : Sp := fun vs H Q E => ∃ (O : Addr → Prop) (ds : List D), OT O H ∧ ArgsOk O H rf vs ds ∧ vs.length = n ∧ (match φ ds with
  | .ok s rs => ∀ (v : V) (O' : Addr → Prop) (H' : Hp), (∀ a o, H a = some o → (∀ i, i ∈ rf → vs[i]? ≠ some (.ref a)) → H' a = some o) → (∀ a o, H a = some o → ∃ o', H' a = some o') → (∀ a, O a → O' a) → (∀ a, O' a → O a ∨ H a = none) → OT O' H' →
      ValOk O' H H' v s → RefsOk O' H' vs rf rs → Q v H'
  | .exc c => ∀ (cv : Value) (d : Option Addr) (H' : Hp), cls c = some cv → Same H H' → E cv d H'
  | .err => False)

theorem startG_get (rf : List Nat) : ∀ (ds : List D) (i j : Nat), (startG rf i ds)[j]? = (ds[j]?).map fun d => if i + j ∈ rf then .rf d else .sh d
  | [], _, _ => by simp [startG]
  | d :: ds, i, 0 => by simp [startG]
  | d :: ds, i, j + 1 => by
    have := startG_get rf ds (i + 1) j
    simp only [startG, List.getElem?_cons_succ, this]
    have e : i + 1 + j = i + (j + 1) := by omega
    rw [e]
theorem startG_length (rf : List Nat) : ∀ (ds : List D) (i : Nat), (startG rf i ds).length = ds.length
  | [], _ => rfl
  | d :: ds, i => by simp [startG, startG_length rf ds (i + 1)]
def actOf (cls : Nat → Option Value) (O : Addr → Prop) (H : Hp) (rf : List Nat) (vs : List V) : Act where
  H0 := H
  O0 := O
  Rf := fun i => if i ∈ rf then (match vs[i]? with
    | some (.ref p) => some p
    | _ => none) else none
  cls := cls
theorem actRf {cls : Nat → Option Value} {O : Addr → Prop} {H : Hp} {rf : List Nat} {vs : List V} {i : Nat} {p : Addr} : (actOf cls O H rf vs).Rf i = some p ↔ i ∈ rf ∧ vs[i]? = some (.ref p) := by
  show (if i ∈ rf then _ else _) = _ ↔ _
  by_cases h : i ∈ rf
  · rw [if_pos h]
    cases e : vs[i]? with
    | none => simp [h]
    | some v => cases v <;> simp [h]
  · rw [if_neg h]; simp [h]
theorem start_get {N : List Str} {vs : List V} {i : Nat} (h : i < vs.length) : (L2.start N vs)[i]? = (vs[i]?).map some := by
  unfold L2.start
  rw [List.getElem?_append_left (by simpa using h), List.getElem?_map]
theorem FI.start {cls : Nat → Option Value} {O : Addr → Prop} {H : Hp} {rf : List Nat} {vs : List V} {ds : List D} {N : List Str} (ot : OT O H) (a : ArgsOk O H rf vs ds) (hl : vs.length ≤ N.length) :
    FI (actOf cls O H rf vs) O (L2.start N vs) H (startG rf 0 ds ++ List.replicate (N.length - ds.length) .no) := by
  have get : ∀ {i : Nat} {s : Sl}, (startG rf 0 ds ++ List.replicate (N.length - ds.length) .no)[i]? = some s → s = .no ∨ ∃ d, ds[i]? = some d ∧ s = if i ∈ rf then .rf d else .sh d := fun {i s} h => by
    by_cases hi : i < ds.length
    · rw [List.getElem?_append_left (by rw [startG_length]; exact hi), startG_get, Nat.zero_add, List.getElem?_eq_getElem hi] at h
      exact .inr ⟨_, List.getElem?_eq_getElem hi, (Option.some.inj h).symm⟩
    · rw [List.getElem?_append_right (by rw [startG_length]; omega), List.getElem?_replicate] at h
      split at h
      · cases h; exact .inl rfl
      · cases h
  have lt : ∀ {i : Nat} {d : D}, ds[i]? = some d → i < vs.length := fun {i d} h => by rw [a.len]; exact (List.getElem?_eq_some_iff.mp h).1
  have rfOf : ∀ {i : Nat} {s : Sl}, (startG rf 0 ds ++ List.replicate (N.length - ds.length) .no)[i]? = some s → s.isOw = true → i ∈ rf ∧ i < vs.length := fun {i s} h o => by
    rcases get h with e | ⟨d, e1, e2⟩
    · subst e; cases o
    · by_cases hr : i ∈ rf
      · exact ⟨hr, lt e1⟩
      · rw [if_neg hr] at e2; subst e2; cases o
  refine ⟨fun i d h => ?_, fun i d h => ?_, fun i d h => ?_, fun i j s t p h1 h2 o1 o2 e1 e2 => ?_, fun _ _ e _ => e, fun a o e => ⟨o, e⟩, fun _ h => h, fun _ h => .inl h, ot, ot, fun i p h => ?_, ?_⟩
  · rcases get h with e | ⟨d', e1, e2⟩
    · cases e
    · by_cases hr : i ∈ rf
      · rw [if_pos hr] at e2; cases e2
      · rw [if_neg hr] at e2; cases e2
        obtain ⟨v, ev, rv⟩ := a.sh i d hr e1
        exact ⟨v, by rw [start_get (lt e1), ev]; rfl, rv⟩
  · rcases get h with e | ⟨d', e1, e2⟩
    · cases e
    · split at e2 <;> cases e2
  · rcases get h with e | ⟨d', e1, e2⟩
    · cases e
    · by_cases hr : i ∈ rf
      · rw [if_pos hr] at e2; cases e2
        obtain ⟨p, ev, ho, rv⟩ := a.rg i d hr e1
        exact ⟨p, actRf.mpr ⟨hr, ev⟩, by rw [start_get (lt e1), ev]; rfl, rv⟩
      · rw [if_neg hr] at e2; cases e2
  · obtain ⟨r1, l1⟩ := rfOf h1 o1
    obtain ⟨r2, l2⟩ := rfOf h2 o2
    rw [start_get l1] at e1
    rw [start_get l2] at e2
    refine a.inj i j p r1 r2 ?_ ?_
    · cases e : vs[i]? with
      | none => rw [e] at e1; cases e1
      | some v => rw [e] at e1; cases e1; rfl
    · cases e : vs[j]? with
      | none => rw [e] at e2; cases e2
      | some v => rw [e] at e2; cases e2; rfl
  · obtain ⟨hr, ev⟩ := actRf.mp h
    have hi : i < ds.length := by rw [← a.len]; exact (List.getElem?_eq_some_iff.mp ev).1
    obtain ⟨q, eq, ho, _⟩ := a.rg i _ hr (List.getElem?_eq_getElem hi)
    rw [ev] at eq
    have : p = q := by injection eq with z; injection z
    rw [this]; exact ho
  · have e1 := a.len
    rw [List.length_append, startG_length, List.length_replicate]
    unfold L2.start
    rw [List.length_append, List.length_map, List.length_replicate, e1]
theorem refsOk_of {cls : Nat → Option Value} {O O' : Addr → Prop} {H H' : Hp} {rf : List Nat} {vs : List V} {σ : L2.St} {g : Gam} (F : FI (actOf cls O H rf vs) O' σ H' g) : ∀ {is : List Nat} {rs : List D}, refsG g is = some rs → RefsOk O' H' vs is rs
  | [], rs, h => by cases h; rfl
  | i :: is, rs, h => by
    unfold refsG at h
    cases h1 : g[i]? with
    | none => rw [h1] at h; cases h
    | some s =>
      cases h2 : refsG g is with
      | none => rw [h1, h2] at h; cases s <;> cases h
      | some ds =>
        rw [h1, h2] at h
        cases s with
        | rf d =>
          cases h
          obtain ⟨p, er, _, r⟩ := F.rf i d h1
          exact ⟨d, ds, p, rfl, (actRf.mp er).2, r, refsOk_of F h2⟩
        | _ => cases h

section
variable {P : Program} {w : World} {K : PySem.W.Frag} {mg : Str → Option Value} {base : Heap} {x qual : Str} {params : Arguments} {body : List Stmt} {scope : Scope} {dvs : List V} {kws : List (Str × V)} {f : Addr} {fd : FuncData} {cls : Nat → Option Value}
/-- THE RULE for a def: its body's judgement gives the promise -/
theorem fn_ok {N ps : List Str} {k : Nat} {rf : List Nat} {ft : DnT} (F : FunD K x qual params body scope dvs kws f fd) (S : FnScope N ps scope)
    (h : ∀ (cdv : Value) (A0 : Around) (outer : List Env) (s : Shared) (H : Hp) (E : XK), Room k (A0.deeper (PyProof.Rows.envOfC qual scope s.heap.objs.size f cdv)) → ∀ A : Act, A.cls = cls →
      DTs (cxOf (L2.CX P w) P w K mg base N qual scope f cdv A0 outer s H E) (fun c d _ H' => E c d H') A body ft) : FnOk P w K mg base (L2.CX P w) (k + 1) f fd ps (spD cls ps.length rf (fnD N.length rf ft)) := by
  refine F.ok S (fun vs H Q E ⟨O, ds, _, _, hl, _⟩ => hl) fun cdv A0 outer s H vs Q E hr ⟨O, ds, ot, ao, hl, q⟩ => ?_
  refine ⟨_, (h cdv A0 outer s H E hr (actOf cls O H rf vs) rfl).ps, ?_⟩
  have hN : vs.length ≤ N.length := by
    have := congrArg List.length S.pre
    rw [List.length_take] at this
    omega
  have F0 := FI.start (cls := cls) (N := N) ot ao hN
  unfold fnD at q
  generalize hr0 : ft (startG rf 0 ds ++ List.replicate (N.length - ds.length) .no) (fun g => .ret (.sh .none) g) = r0 at q
  have hrf : ∀ {a : Addr} {i : Nat}, (actOf cls O H rf vs).Rf i = some a → i ∈ rf ∧ vs[i]? = some (.ref a) := fun h => actRf.mp h
  have done : ∀ (s : Sl) (g : Gam), r0 = .ret s g → ∀ (v : V) (σ' : L2.St) (O' : Addr → Prop) (H' : Hp), FI (actOf cls O H rf vs) O' σ' H' g → pF (actOf cls O H rf vs) O' H' σ' g v s → Q v H' := fun s0 g ex v σ' O' H' F' pf => by
    subst ex
    unfold endR at q
    cases hg : refsG g rf with
    | none => simp only [hg] at q
    | some rs =>
      simp only [hg] at q
      refine q v O' H' (fun a o e n => F'.keep a o e fun i z => n i (hrf z).1 (hrf z).2) F'.tr F'.up F'.fr F'.ot ?_ (refsOk_of F' hg)
      cases s0 with
      | no => exact pf.elim
      | rf d => exact pf.elim
      | sh d => exact pf
      | ow d =>
        obtain ⟨p, e, ho, n, ro, _⟩ := pf
        exact ⟨p, e, ho, n, ro⟩
  refine ⟨O, _, _, r0, F0, hr0, ⟨⟨fun z => ?_, fun c g ex cv d σ' O' H' hc F' => ?_⟩, done, fun g ex => ?_, fun g ex => ?_⟩, fun σ' O' H' g' F' gr e => done (.sh .none) g' e.symm .non σ' O' H' F' rfl⟩
  · subst z; exact q
  · subst ex
    cases rf with
    | nil => exact q cv d H' hc fun a o e => F'.keep a o e fun i z => by cases (hrf z).1
    | cons _ _ => exact q.elim
  · subst ex; exact q.elim
  · subst ex; exact q.elim
end

/-! ### calls of own defs -/
/-- the arguments are values that go on; f is told by φ -/
def callC (φ : Fd) (fs : DnL) : DnS := fun g k => fs g fun ds g' => match φ ds with
  | .ok s [] => k s g'
  | .exc c => .exc c g'
  | _ => .err
section
variable {X : Cx} {W : WX} {A : Act} {c : Bool} {e : Expr} {es : List Expr} {x : Str} {p pos : Pos} {f : Addr} {fd : FuncData} {ps : List Str} {k : Nat} {φ : Fd} {fs : DnL}
/-- a def that may be called by its name, from level k -/
structure Cal (X : Cx) (cls : Nat → Option Value) (k : Nat) (x : Str) (n : Nat) (rf : List Nat) (φ : Fd) : Prop where
  ex : ∃ (f : Addr) (fd : FuncData) (ps : List Str), FnOk X.prog X.w X.K X.mg X.base (L2.CX X.prog X.w) k f fd ps (spD cls n rf φ) ∧ X.mg x = some (.ref f) ∧ PySem.W.keepIn X.K (.ref f) = true ∧ Binds X.K fd ps []
/-- f(e, ..) -/
theorem df_call (C : Cal X A.cls k x es.length.succ [] φ) (hr : Room k X.A) (hg : Gl X x) (tk : Takes X W) (ha : DL true X W A c (e :: es) fs)
    (hdb : (x == ("__debug__" : Str)) = false := by decide) (he : starEach (e :: es) X.env = (false, eval e X.env) :: starEach es X.env := by rfl) (hpl : (backTo pos (starEach es X.env)).any (·.1) = false := by rfl) :
    DF X W A c (.Call (.Name x p) (e :: es) [] pos) (callC φ fs) := by
  obtain ⟨f, fd, ps, G, hm, hk, hb⟩ := C.ex
  refine ⟨(pe_callS G hr hg hm hk hb (fun σ => passAt tk σ) ha.pa hdb he hpl).imp fun σ H Q ⟨O, g, k0, r, F, e0, G0, q⟩ => ?_⟩
  refine ⟨O, g, _, r, F, e0, G0, fun vs ds O1 H1 g1 F1 gr1 p1 l1 e1 => ?_⟩
  have p1 : RpAll O1 H1 ds vs := p1
  refine ⟨O1, ds, F1.ot, ⟨p1.length, fun i d _ h => p1.get h, (fun i d h => by cases h), (fun i j p h => by cases h)⟩, by rw [p1.length, l1]; rfl, ?_⟩
  cases hφ : φ ds with
  | err => simp only [hφ] at e1; exact G0.ne e1.symm
  | exc cn =>
    simp only [hφ] at e1
    intro cv d H' hc sm
    exact G0.ex cn g1 e1.symm cv d σ O1 H' hc (F1.same sm)
  | ok s rs =>
    cases rs with
    | cons _ _ => simp only [hφ] at e1; exact absurd e1.symm G0.ne
    | nil =>
      simp only [hφ] at e1
      intro v O' H' same tr up fr ot vo ro
      have sm : Same H1 H' := fun a o e => same a o e fun i h => by cases h
      have F' : FI A O' σ H' g1 := F1.step sm up fun a h => (fr a h).elim .inl fun z => .inr ⟨z, ot a h⟩
      have gr' : Gr c O H O' H' := by
        refine ⟨fun a o ea n => ?_, fun h => (gr1.2 h).trans sm⟩
        have := gr1.1 a o ea n
        exact ⟨sm a o this.1, fun z => (fr a z).elim this.2 fun z => by rw [this.1] at z; cases z⟩
      refine q v s O' H' g1 F' gr' ?_ e1
      cases s with
      | no => exact vo.elim
      | rf d => exact vo.elim
      | sh d => exact vo
      | ow d =>
        obtain ⟨p, ep, ho, n, r⟩ := vo
        exact ⟨p, ep, ho, F1.h0 n, r, F1.free n⟩
end
end Z

namespace Z
open PySem L2

section
variable {A : Act} {O O' : Addr → Prop} {σ : L2.St} {H H' : Hp} {g : Gam} {p : Addr} {i : Nat} {d : D}
/-- an own slot's object was changed by a callee -/
theorem FI.called (F : FI A O σ H g) {s : Sl} (h : g[i]? = some s) (ow : s.isOw = true) (e : σ[i]? = some (some (.ref p))) (same : ∀ a o, H a = some o → a ≠ p → H' a = some o) (tr : ∀ a o, H a = some o → ∃ o', H' a = some o')
    (up : ∀ a, O a → O' a) (fr : ∀ a, O' a → O a ∨ H a = none) (ot : OT O' H') (r : RpO O' H' p d) : FI A O' σ H' (g.set i (s.to d)) := by
  have hi := F.lt h
  obtain ⟨q, e', hO, ⟨u, hu⟩, hm⟩ := F.at h ow
  rw [e] at e'
  have : p = q := by injection e' with e'; injection e' with e'; injection e'
  subst this
  have mv : ∀ a o', H a = some o' → ¬ O a → H' a = some o' ∧ ¬ O' a := fun a o' ea n => ⟨same a o' ea fun z => n (by rw [z]; exact hO), fun z => (fr a z).elim n fun z => by rw [z] at ea; cases ea⟩
  have cut : ∀ {j : Nat} {t : Sl}, i ≠ j → (g.set i (s.to d))[j]? = some t → g[j]? = some t := fun {j t} hij hs => by rw [setIs, if_neg hij] at hs; exact hs
  have self : (g.set i (s.to d))[i]? = some (s.to d) := by rw [setIs, if_pos rfl, if_pos hi]
  have hp0 : ∀ a o', A.H0 a = some o' → (∀ i, A.Rf i ≠ some a) → a ≠ p := fun a o' ea na z => by
    subst z
    cases s with
    | no => cases ow
    | sh d => cases ow
    | ow d0 =>
      obtain ⟨q, e1, _, n, _⟩ := F.ow i d0 h
      rw [e] at e1
      have : a = q := by injection e1 with e1; injection e1 with e1; injection e1
      subst this; rw [n] at ea; cases ea
    | rf d0 =>
      obtain ⟨q, er, e1, _⟩ := F.rf i d0 h
      rw [e] at e1
      have : a = q := by injection e1 with e1; injection e1 with e1; injection e1
      subst this; exact na i er
  refine ⟨fun j d' hs => ?_, fun j d' hs => ?_, fun j d' hs => ?_, fun j k t t' q h1 h2 o1 o2 e1 e2 => ?_, fun a o' ea na => same a o' (F.keep a o' ea na) (hp0 a o' ea na), fun a o' ea => ?_, fun a z => up a (F.up a z), fun a z => ?_, F.o0, ot, F.r0, by rw [List.length_set]; exact F.len⟩
  · have hij : i ≠ j := fun z => by
      subst z; rw [self] at hs
      cases s with
      | no => cases ow
      | sh d => cases ow
      | ow d => cases hs
      | rf d => cases hs
    obtain ⟨w, e, q⟩ := F.sh j d' (cut hij hs); exact ⟨w, e, Rp.move mv _ _ q⟩
  · by_cases hij : i = j
    · subst hij; rw [self] at hs
      cases s with
      | no => cases ow
      | sh d => cases ow
      | ow d0 =>
        cases hs
        obtain ⟨q, e1, ho, n, _⟩ := F.ow i d0 h
        rw [e] at e1
        have : p = q := by injection e1 with e1; injection e1 with e1; injection e1
        subst this
        exact ⟨p, e, up p ho, n, r⟩
      | rf d => cases hs
    · obtain ⟨q, eq, ho, n, rq⟩ := F.ow j d' (cut hij hs)
      have hne : q ≠ p := fun z => hij (F.inj i j s _ p h (cut hij hs) ow rfl e (by rw [eq, z]))
      exact ⟨q, eq, up q ho, n, rq.move mv fun o' q' => same q o' q' hne⟩
  · by_cases hij : i = j
    · subst hij; rw [self] at hs
      cases s with
      | no => cases ow
      | sh d => cases ow
      | ow d => cases hs
      | rf d0 =>
        cases hs
        obtain ⟨q, er, e1, _⟩ := F.rf i d0 h
        rw [e] at e1
        have : p = q := by injection e1 with e1; injection e1 with e1; injection e1
        subst this
        exact ⟨p, er, e, r⟩
    · obtain ⟨q, er, eq, rq⟩ := F.rf j d' (cut hij hs)
      have hne : q ≠ p := fun z => hij (F.inj i j s _ p h (cut hij hs) ow rfl e (by rw [eq, z]))
      exact ⟨q, er, eq, rq.move mv fun o' q' => same q o' q' hne⟩
  · have back : ∀ {j : Nat} {t : Sl}, (g.set i (s.to d))[j]? = some t → t.isOw = true → ∃ t0, g[j]? = some t0 ∧ t0.isOw = true := fun {j t} hs o' => by
      by_cases hij : i = j
      · subst hij; exact ⟨s, h, ow⟩
      · exact ⟨t, cut hij hs, o'⟩
    obtain ⟨t1, q1, q2⟩ := back h1 o1
    obtain ⟨t2, q3, q4⟩ := back h2 o2
    exact F.inj j k t1 t2 q q1 q3 q2 q4 e1 e2
  · obtain ⟨o1, e1⟩ := F.tr a o' ea
    exact tr a o1 e1
  · rcases fr a z with z | z
    · exact F.fr a z
    · exact .inr (F.h0 z)
theorem FI.datAt (F : FI A O σ H g) {s : Sl} (h : g[i]? = some s) : ∀ {d : D}, (s = .ow d ∨ s = .rf d) → ∃ p, σ[i]? = some (some (.ref p)) ∧ O p ∧ RpO O H p d := fun {d} hs => by
  rcases hs with rfl | rfl
  · obtain ⟨p, e, ho, _, r⟩ := F.ow i _ h; exact ⟨p, e, ho, r⟩
  · obtain ⟨p, er, e, r⟩ := F.rf i _ h; exact ⟨p, e, F.rO er, r⟩
end
/-- the datum of an own slot -/
def owOf : Option Sl → Option D
  | some (.ow d) => some d
  | some (.rf d) => some d
  | _ => none
theorem owOf_some {o : Option Sl} {d : D} (h : owOf o = some d) : ∃ s, o = some s ∧ (s = .ow d ∨ s = .rf d) ∧ s.isOw = true := by
  unfold owOf at h
  split at h
  · cases h; exact ⟨_, rfl, .inl rfl, rfl⟩
  · cases h; exact ⟨_, rfl, .inr rfl, rfl⟩
  · cases h
/-- a def that changes its first argument in place, the name in slot i -/
def callRC (i : Nat) (φ : Fd) (fs : DnL) : DnS := fun g k => match owOf g[i]? with
  | some _ => fs g fun ds g' => match owOf g'[i]? with
    | some d0 => match φ (d0 :: ds) with
      | .ok s [d1] => k s (stTo g' i d1)
      | _ => .err
    | none => .err
  | none => .err
section
variable {X : Cx} {W : WX} {A : Act} {c : Bool} {a e : Expr} {es : List Expr} {x : Str} {p pos : Pos} {k : Nat} {φ : Fd} {fs : DnL} {i : Nat}
theorem df_callR (C : Cal X A.cls k x es.length.succ [0] φ) (hr : Room k X.A) (hg : Gl X x) (tk : Takes X W) (hv : PE X a (tVar i)) (ha : DL true X W A c es fs)
    (hdb : (x == ("__debug__" : Str)) = false := by decide) (he : starEach (a :: es) X.env = (false, eval a X.env) :: starEach es X.env := by rfl) (hpl : (backTo pos (starEach es X.env)).any (·.1) = false := by rfl) :
    DF X W A false (.Call (.Name x p) (a :: es) [] pos) (callRC i φ fs) := by
  obtain ⟨f, fd, ps, G, hm, hk, hb⟩ := C.ex
  refine ⟨(pe_callS G hr hg hm hk hb (fun σ => passAt tk σ) (pa_cons hv ha.pa he) hdb he hpl).imp fun σ H Q ⟨O, g, k0, r, F, e0, G0, q⟩ => ?_⟩
  unfold callRC at e0
  cases h0 : owOf g[i]? with
  | none => rw [h0] at e0; exact absurd e0.symm G0.ne
  | some dz =>
    rw [h0] at e0
    obtain ⟨sz, hz, hsz, owz⟩ := owOf_some h0
    obtain ⟨p, ep, hO, rz⟩ := F.datAt hz hsz
    refine ⟨_, ep, O, g, _, r, F, e0, G0, fun vs ds O1 H1 g1 F1 gr1 p1 l1 e1 => ?_⟩
    have p1 : RpAll O1 H1 ds vs := p1
    cases h1 : owOf g1[i]? with
    | none => simp only [h1] at e1; exact absurd e1.symm G0.ne
    | some d0 =>
      simp only [h1] at e1
      obtain ⟨s1, hs1, hsd, ow1⟩ := owOf_some h1
      obtain ⟨p', ep', hO1, r1⟩ := F1.datAt hs1 hsd
      rw [ep] at ep'
      have : p = p' := by injection ep' with z; injection z with z; injection z
      subst this
      refine ⟨O1, d0 :: ds, F1.ot, ⟨by rw [List.length_cons, List.length_cons, p1.length], fun j d hj h => ?_, fun j d hj h => ?_, fun j l q hj hl _ _ => ?_⟩, by rw [List.length_cons, p1.length, l1], ?_⟩
      · cases j with
        | zero => exact absurd (List.mem_singleton_self 0) hj
        | succ j => exact p1.get (by simpa using h)
      · have hj : j = 0 := List.mem_singleton.mp hj
        subst hj
        simp at h; subst h
        exact ⟨p, rfl, hO1, r1⟩
      · exact (List.mem_singleton.mp hj).trans (List.mem_singleton.mp hl).symm
      cases hφ : φ (d0 :: ds) with
      | err => simp only [hφ] at e1; exact G0.ne e1.symm
      | exc cn => simp only [hφ] at e1; exact absurd e1.symm G0.ne
      | ok s rs =>
        match rs, hφ with
        | [], hφ => simp only [hφ] at e1; exact absurd e1.symm G0.ne
        | _ :: _ :: _, hφ => simp only [hφ] at e1; exact absurd e1.symm G0.ne
        | [d1], hφ =>
          simp only [hφ] at e1
          intro v O' H' same tr up fr ot vo ⟨d', ds', p', ed, ep1, rp, _⟩
          cases ed
          have : p = p' := by
            have z : (V.ref p :: vs)[0]? = some (V.ref p') := ep1
            simpa using z
          subst this
          have same' : ∀ a o, H1 a = some o → a ≠ p → H' a = some o := fun a o ea n => same a o ea fun j hj z => by
            have hj : j = 0 := List.mem_singleton.mp hj
            subst hj
            have z : (V.ref p :: vs)[0]? = some (V.ref a) := z
            exact n (by simpa using z.symm)
          have F' := F1.called hs1 ow1 ep same' tr up fr ot rp
          have es : stTo g1 i d1 = g1.set i (s1.to d1) := by unfold stTo; rw [hs1]
          rw [es] at e1
          refine q v s O' H' _ F' ⟨fun a o ea n => ?_, fun z => nomatch z⟩ ?_ e1
          · have w := gr1.1 a o ea n
            exact ⟨same' a o w.1 fun z => w.2 (by rw [z]; exact hO1), fun z => (fr a z).elim w.2 fun z => by rw [w.1] at z; cases z⟩
          · cases s with
            | no => exact vo.elim
            | rf d => exact vo.elim
            | sh d => exact vo
            | ow d =>
              obtain ⟨p2, ep2, ho, n, r⟩ := vo
              refine ⟨p2, ep2, ho, F1.h0 n, r, fun j t hj o z => ?_⟩
              have back : ∃ t0, g1[j]? = some t0 ∧ t0.isOw = true := by
                rw [setIs] at hj
                split at hj
                · rename_i hij; subst hij; exact ⟨s1, hs1, ow1⟩
                · exact ⟨t, hj, o⟩
              obtain ⟨t0, q1, q2⟩ := back
              exact F1.free n j t0 q1 q2 z

/-! ### raise, try -/
/-- raise X('..') -/
def raiseT (cn : Nat) : DnT := fun g _ => .exc cn g
theorem dt_raise {e : Expr} {cv : Value} {cn : Nat} {pos : Pos} (hc : X.calm = true) (tk : Takes X W) (he : PMk X e fun _ H Q => Q cv none H) (hcl : A.cls cn = some cv) : DT X W A (.Raise (some e) none pos) (raiseT cn) :=
  ⟨(ps_raise hc tk he).imp fun D σ H ⟨O, g, k, r, F, e, Eo', q⟩ => Eo'.go.ex cn g e.symm cv none σ O H hcl F⟩
/-- try: body, except the class by name: suite. yes: does the clause take an exception of this class -/
def tryT (yes : Nat → Option Bool) (fb fs : DnT) : DnT := fun g k => match fb g .nx with
  | .nx g' => k g'
  | .exc c g' => match yes c with
    | some true => fs g' k
    | some false => .exc c g'
    | none => .err
  | .va _ _ => .err
  | r => r
end
end Z

namespace Z
open PySem L2

/-! ### built-in functions of data -/
/-- a value-level rule of a call: on what is read as ds it gives op's -/
def RuC (r : List V → Hp → VK → Prop) (op : List D → Option Sl) : Prop := ∀ (O : Addr → Prop) (H : Hp) (vs : List V) (ds : List D) (s : Sl) (Q : VK), OT O H → RdL O H ds vs → op ds = some s → (∀ v H', Res O H H' v s → Q v H') → r vs H Q
def RuCD (r : List V → Hp → VK → Prop) (op : List D → Option D) : Prop := ∀ (O : Addr → Prop) (H : Hp) (vs : List V) (ds : List D) (s : D) (Q : VK), OT O H → RdL O H ds vs → op ds = some s → (∀ v, Rp O H s v → Q v H) → r vs H Q
def opsF (op : List D → Option Sl) (fs : DnL) : DnS := fun g k => fs g fun ds g' => kop (op ds) g' k
def opsD (op : List D → Option D) (fs : DnL) : DnD := fun g k => fs g fun ds g' => kopD (op ds) g' k
section
variable {X : Cx} {W : WX} {A : Act} {c ca cb m m' : Bool} {e a b : Expr} {es : List Expr} {x : Str} {p pos : Pos} {id : String} {r : List V → Hp → VK → Prop} {fs : DnL}
theorem tCB_F {op : List D → Option Sl} {n : Nat} (hv : RuC r op) {σ : L2.St} {H : Hp} {Q : VK} (h : tG A W c (pF A) (opsF op fs) σ H Q) : tCB r (tGL A W c n (pLM m) fs) σ H Q := by
  obtain ⟨O, g, k, r0, F, e0, G, q⟩ := h
  refine ⟨O, g, _, r0, F, e0, G, fun vs ds O1 H1 g1 F1 gr1 p1 l1 e1 => ?_⟩
  cases ho : op ds with
  | none => simp only [ho, kop] at e1; exact absurd e1.symm G.ne
  | some s =>
    simp only [ho, kop] at e1
    refine hv O1 H1 vs ds s Q F1.ot (pLM_rd p1) ho fun v H' rs => ?_
    obtain ⟨O', F', gr', pf⟩ := rs.pF F1
    exact q v s O' H' g1 F' (by simpa using gr1.trans gr') pf e1
theorem tCB_D {op : List D → Option D} {n : Nat} (hv : RuCD r op) {σ : L2.St} {H : Hp} {Q : VK} (h : tG A W c pS (opsD op fs) σ H Q) : tCB r (tGL A W c n (pLM m) fs) σ H Q := by
  obtain ⟨O, g, k, r0, F, e0, G, q⟩ := h
  refine ⟨O, g, _, r0, F, e0, G, fun vs ds O1 H1 g1 F1 gr1 p1 l1 e1 => ?_⟩
  cases ho : op ds with
  | none => simp only [ho, kopD] at e1; exact absurd e1.symm G.ne
  | some s =>
    simp only [ho, kopD] at e1
    exact hv O1 H1 vs ds s Q F1.ot (pLM_rd p1) ho fun v rs => q v s O1 H1 g1 F1 gr1 rs e1
theorem df_callB {op : List D → Option Sl} (hv : RuC r op) (hc : CallR X (.builtin id) r) (hg : Gl X x) (hm : X.mg x = none) (hvb : bootBuiltins x = some (.builtin id)) (ha : DL m X W A c (e :: es) fs) (hn : x ≠ "__name__" := by decide) (hdb : (x == ("__debug__" : Str)) = false := by decide)
    (he : starEach (e :: es) X.env = (false, eval e X.env) :: starEach es X.env := by rfl) (hpl : (backTo pos (starEach es X.env)).any (·.1) = false := by rfl) : DF X W A c (.Call (.Name x p) (e :: es) [] pos) (opsF op fs) :=
  ⟨(pe_callB hc hg hm hvb ha.pa hn hdb he hpl).imp fun _ _ _ h => tCB_F hv h⟩
theorem ds_callB {op : List D → Option D} (hv : RuCD r op) (hc : CallR X (.builtin id) r) (hg : Gl X x) (hm : X.mg x = none) (hvb : bootBuiltins x = some (.builtin id)) (ha : DL m X W A c (e :: es) fs) (hn : x ≠ "__name__" := by decide) (hdb : (x == ("__debug__" : Str)) = false := by decide)
    (he : starEach (e :: es) X.env = (false, eval e X.env) :: starEach es X.env := by rfl) (hpl : (backTo pos (starEach es X.env)).any (·.1) = false := by rfl) : DS X W A c (.Call (.Name x p) (e :: es) [] pos) (opsD op fs) :=
  ⟨(pe_callB hc hg hm hvb ha.pa hn hdb he hpl).imp fun _ _ _ h => tCB_D hv h⟩
theorem df_callTy {op : List D → Option Sl} (hv : RuC r op) (hc : CallR X (.type id) r) (hg : Gl X x) (hm : X.mg x = none) (hvb : bootBuiltins x = some (.type id)) (ha : DL m X W A c (e :: es) fs) (hn : x ≠ "__name__" := by decide) (hdb : (x == ("__debug__" : Str)) = false := by decide)
    (he : starEach (e :: es) X.env = (false, eval e X.env) :: starEach es X.env := by rfl) (hpl : (backTo pos (starEach es X.env)).any (·.1) = false := by rfl) : DF X W A c (.Call (.Name x p) (e :: es) [] pos) (opsF op fs) :=
  ⟨(pe_callTy hc hg hm hvb ha.pa hn hdb he hpl).imp fun _ _ _ h => tCB_F hv h⟩
theorem ds_callTy {op : List D → Option D} (hv : RuCD r op) (hc : CallR X (.type id) r) (hg : Gl X x) (hm : X.mg x = none) (hvb : bootBuiltins x = some (.type id)) (ha : DL m X W A c (e :: es) fs) (hn : x ≠ "__name__" := by decide) (hdb : (x == ("__debug__" : Str)) = false := by decide)
    (he : starEach (e :: es) X.env = (false, eval e X.env) :: starEach es X.env := by rfl) (hpl : (backTo pos (starEach es X.env)).any (·.1) = false := by rfl) : DS X W A c (.Call (.Name x p) (e :: es) [] pos) (opsD op fs) :=
  ⟨(pe_callTy hc hg hm hvb ha.pa hn hdb he hpl).imp fun _ _ _ h => tCB_D hv h⟩

theorem rdl1 {O : Addr → Prop} {H : Hp} {d : D} {vs : List V} (h : RdL O H [d] vs) : ∃ v, vs = [v] ∧ RdD O H d v := by
  obtain ⟨v, ws, rfl, r, e⟩ := h
  cases (show ws = [] from e)
  exact ⟨v, rfl, r⟩
theorem rdl2 {O : Addr → Prop} {H : Hp} {d d' : D} {vs : List V} (h : RdL O H [d, d'] vs) : ∃ v w, vs = [v, w] ∧ RdD O H d v ∧ RdD O H d' w := by
  obtain ⟨v, ws, rfl, r, h⟩ := h
  obtain ⟨w, rfl, r'⟩ := rdl1 h
  exact ⟨v, w, rfl, r, r'⟩

/-- len -/
def lenD : List D → Option D
  | [.str z] => if z.length ≤ sizeLine then some (.int z.length) else none
  | [.list ds] => some (.int ds.length)
  | [.tuple ds] => some (.int ds.length)
  | _ => none
theorem ru_len : RuCD (fun xs H Q => ∃ x n, xs = [x] ∧ LenV X.K x H n ∧ Q (.int n) H) lenD := by
  intro O H vs ds s Q ot rd ho hQ
  unfold lenD at ho
  split at ho
  · split at ho
    · rename_i hz
      cases ho
      obtain ⟨v, rfl, r⟩ := rdl1 rd
      exact ⟨v, _, rfl, by rw [rd_str r]; exact ⟨hz, rfl⟩, hQ _ rfl⟩
    · cases ho
  · cases ho
    obtain ⟨v, rfl, r⟩ := rdl1 rd
    obtain ⟨a, xs, rfl, sq, q, _⟩ := rd_lst (K := X.K) r
    exact ⟨_, _, rfl, .inl ⟨xs, sq, rfl⟩, by rw [q.length]; exact hQ _ rfl⟩
  · cases ho
    obtain ⟨v, rfl, r⟩ := rdl1 rd
    obtain ⟨a, xs, rfl, sq, q, _, _⟩ := rd_tup (K := X.K) r
    exact ⟨_, _, rfl, .inr ⟨xs, sq, rfl⟩, by rw [q.length]; exact hQ _ rfl⟩
  · cases ho
/-- int -/
def intD : List D → Option D
  | [.int i] => some (.int i)
  | [.bool b] => some (.int (if b then 1 else 0))
  | _ => none
theorem ru_int : RuCD (fun xs H Q => (∃ i, xs = [.int i] ∧ Q (.int i) H) ∨ ∃ k, xs = [.bl k] ∧ Q (.int (if k then 1 else 0)) H) intD := by
  intro O H vs ds s Q ot rd ho hQ
  unfold intD at ho
  split at ho
  · cases ho
    obtain ⟨v, rfl, r⟩ := rdl1 rd
    exact .inl ⟨_, by rw [rd_int r], hQ _ rfl⟩
  · cases ho
    obtain ⟨v, rfl, r⟩ := rdl1 rd
    exact .inr ⟨_, by rw [rd_bl r], hQ _ rfl⟩
  · cases ho
/-- str of a whole number, a text, None, a bool -/
def strD : List D → Option D
  | [.int i] => if i.natAbs.log2 < 1920 then some (.str (toString i)) else none
  | [.str x] => some (.str x)
  | [.none] => some (.str "None")
  | [.bool b] => some (.str (if b then "True" else "False"))
  | _ => none
def rStrX : List V → Hp → VK → Prop := fun xs H Q => (∃ i, xs = [.int i] ∧ i.natAbs.log2 < 1920 ∧ Q (.str (toString i)) H) ∨ (∃ a, xs = [.str a] ∧ Q (.str a) H) ∨ (xs = [.non] ∧ Q (.str "None") H) ∨ ∃ b : Bool, xs = [.bl b] ∧ Q (.str (if b then "True" else "False")) H
theorem call_strX : CallR X (.type "str") rStrX := by
  intro pins s σ H xs us Q I r h
  rcases h with h | h | ⟨rfl, q⟩ | ⟨b, rfl, q⟩
  · exact call_str_int pins s σ H xs us Q I r h
  · exact SkE.call_str_str pins s σ H xs us Q I r h
  · obtain ⟨u, rfl, r1⟩ := vals1 r
    cases (show u = Value.none from r1)
    exact PySem.P.str_of_none ⟨.str _, H, I.tok _, ⟨_, rfl⟩, q⟩
  · obtain ⟨u, rfl, r1⟩ := vals1 r
    cases (show u = Value.bool b from r1)
    exact PySem.P.str_of_bool ⟨.str _, H, I.tok _, ⟨_, rfl⟩, q⟩
theorem ru_str : RuCD rStrX strD := by
  intro O H vs ds s Q ot rd ho hQ
  unfold strD at ho
  split at ho
  · split at ho
    · rename_i hz
      cases ho
      obtain ⟨v, rfl, r⟩ := rdl1 rd
      exact .inl ⟨_, by rw [rd_int r], hz, hQ _ rfl⟩
    · cases ho
  · cases ho
    obtain ⟨v, rfl, r⟩ := rdl1 rd
    exact .inr (.inl ⟨_, by rw [rd_str r], hQ _ rfl⟩)
  · cases ho
    obtain ⟨v, rfl, r⟩ := rdl1 rd
    exact .inr (.inr (.inl ⟨by rw [rd_non r], hQ _ rfl⟩))
  · cases ho
    obtain ⟨v, rfl, r⟩ := rdl1 rd
    exact .inr (.inr (.inr ⟨_, by rw [rd_bl r], hQ _ rfl⟩))
  · cases ho
/-- list of a list, a tuple: a new one -/
def listF : List D → Option Sl
  | [.list ds] => some (.ow (.list ds))
  | [.tuple ds] => some (.ow (.list ds))
  | _ => none
theorem ru_listOf : RuC (fun xs H Q => ∃ p ys, xs = [.ref p] ∧ (SqL X.K H p ys ∨ SqT X.K H p ys) ∧ ∀ l, H l = none → Q (.ref l) (upd H l (.lst ys))) listF := by
  intro O H vs ds s Q ot rd ho hQ
  unfold listF at ho
  split at ho
  · cases ho
    obtain ⟨v, rfl, r⟩ := rdl1 rd
    obtain ⟨a, xs, rfl, sq, q, _⟩ := rd_lst (K := X.K) r
    exact ⟨a, xs, rfl, .inl sq, fun l n => hQ _ _ (res_lst n q)⟩
  · cases ho
    obtain ⟨v, rfl, r⟩ := rdl1 rd
    obtain ⟨a, xs, rfl, sq, q, _, _⟩ := rd_tup (K := X.K) r
    exact ⟨a, xs, rfl, .inr sq, fun l n => hQ _ _ (res_lst n q)⟩
  · cases ho
/-- tuple of a list, a tuple -/
def tupD : List D → Option D
  | [.list ds] => some (.tuple ds)
  | [.tuple ds] => some (.tuple ds)
  | _ => none
theorem ru_tupOf : RuC (fun xs H Q => ∃ p ys, xs = [.ref p] ∧ ((SqL X.K H p ys ∧ ∀ l, H l = none → Q (.ref l) (upd H l (.tup ys))) ∨ (SqT X.K H p ys ∧ Q (.ref p) H))) (fun ds => (tupD ds).map .sh) := by
  intro O H vs ds s Q ot rd ho hQ
  have ho : (tupD ds).map .sh = some s := ho
  unfold tupD at ho
  split at ho
  · cases ho
    obtain ⟨v, rfl, r⟩ := rdl1 rd
    obtain ⟨a, xs, rfl, sq, q, _⟩ := rd_lst (K := X.K) r
    exact ⟨a, xs, rfl, .inl ⟨sq, fun l n => hQ _ _ (res_tup ot n q)⟩⟩
  · cases ho
    obtain ⟨v, rfl, r⟩ := rdl1 rd
    obtain ⟨a, xs, rfl, sq, q, nO, rr⟩ := rd_tup (K := X.K) r
    exact ⟨a, xs, rfl, .inr ⟨sq, hQ _ _ (res_sh ⟨a, xs, rfl, nO, rr, q⟩)⟩⟩
  · cases ho
/-- from a rule that may be new to one that is not an own one -/
theorem DF.d {op : List D → Option D} (h : DF X W A c e (opsF (fun ds => (op ds).map .sh) fs)) : DS X W A c e (opsD op fs) := by
  have hs := h.s
  have : fz (opsF (fun ds => (op ds).map .sh) fs) = opsD op fs := by
    funext g k
    unfold fz opsF opsD
    congr 1
    funext ds g'
    show kop ((op ds).map .sh) g' (kfz k) = kopD (op ds) g' k
    cases op ds <;> rfl
  rw [this] at hs
  exact hs

/-! ### isinstance -/
def instOf (T : String) : D → Bool
  | .none => T == "NoneType"
  | .bool _ => T == "bool" || T == "int"
  | .int _ => T == "int"
  | .str _ => T == "str"
  | .list _ => T == "list"
  | .tuple _ => T == "tuple"
  | .dict _ => T == "dict"
def tyName : D → String
  | .none => "NoneType"
  | .bool _ => "bool"
  | .int _ => "int"
  | .str _ => "str"
  | .list _ => "list"
  | .tuple _ => "tuple"
  | .dict _ => "dict"
theorem tyx_of {K : PySem.W.Frag} {O : Addr → Prop} {H : Hp} {d : D} {v : V} (h : RdD O H d v) : TyX K H v (.type (tyName d)) := by
  cases d with
  | none => rw [rd_non h]; exact .base .non
  | bool b => rw [rd_bl h]; exact .base (.bl b)
  | int i => rw [rd_int h]; exact .base (.int i)
  | str x => rw [rd_str h]; exact .base (.str x)
  | list ds =>
    obtain ⟨a, xs, rfl, _, _, r⟩ := rd_lst (K := K) h
    rcases r with r | ⟨o, r⟩
    · exact .base (.lst r)
    · exact .base (.frz r)
  | tuple ds =>
    obtain ⟨a, xs, rfl, _, _, _, r⟩ := rd_tup (K := K) h
    rcases r with r | ⟨o, r⟩
    · exact .base (.tup r)
    · exact .fTuple r
  | dict kvs =>
    have own : ∀ {a : Addr} {ks : List D} {xs : List V}, DcAt H a ks xs → TyX K H (.ref a) (.type "dict") := fun {a ks xs} h => by
      rcases h with ⟨es, r, _⟩ | ⟨es, r, _⟩
      · rcases r with r | ⟨o, r⟩
        · exact .base (.dK r)
        · exact .fDict r
      · exact .base (.dT r)
    rcases h with ⟨a, xs, rfl, _, r, _⟩ | ⟨p, rfl, xs, r, _⟩
    · exact own r
    · rcases r with ⟨es, r, _⟩ | ⟨es, r, _⟩
      · exact .base (.dK r)
      · exact .base (.dT r)
/-- a type that is asked for -/
def okTy (T : String) : Bool := T == "int" || T == "bool" || T == "str" || T == "list" || T == "tuple" || T == "dict"
theorem kit_data {T : String} (h : okTy T = true) (d : D) : kitB (tyName d) T = some (instOf T d) := by
  have : T = "int" ∨ T = "bool" ∨ T = "str" ∨ T = "list" ∨ T = "tuple" ∨ T = "dict" := by
    unfold okTy at h
    simp only [Bool.or_eq_true, beq_iff_eq] at h
    rcases h with ((((h | h) | h) | h) | h) | h
    · exact .inl h
    · exact .inr (.inl h)
    · exact .inr (.inr (.inl h))
    · exact .inr (.inr (.inr (.inl h)))
    · exact .inr (.inr (.inr (.inr (.inl h))))
    · exact .inr (.inr (.inr (.inr (.inr h))))
  rcases this with rfl | rfl | rfl | rfl | rfl | rfl <;> cases d <;> (show kitB _ _ = some _) <;> (simp only [tyName, instOf]; decide +kernel)
def instAny (Ts : List String) (d : D) : Bool := Ts.any fun T => instOf T d
def isiC (Ts : List String) (f : DnD) : DnD := fun g k => f g fun d g' => k (.bool (instAny Ts d)) g'
/-- isinstance(a, T) -/
theorem ds_isi {T : String} {y : Str} {py : Pos} {f : DnD} (hg : Gl X "isinstance") (hm : X.mg "isinstance" = none) (hgt : Gl X y) (hmt : X.mg y = none) (hvt : bootBuiltins y = some (.type T)) (ok : okTy T = true) (ha : DM m X W A c a f)
    (hyn : y ≠ "__name__" := by decide) (hyd : (y == ("__debug__" : Str)) = false := by decide)
    (he : starEach [a, .Name y py] X.env = (false, eval a X.env) :: starEach [.Name y py] X.env := by rfl) (he2 : starEach [.Name y py] X.env = (false, eval (.Name y py) X.env) :: starEach [] X.env := by rfl) (hpl : (backTo pos (starEach [.Name y py] X.env)).any (·.1) = false := by rfl) :
    DS X W A c (.Call (.Name "isinstance" p) [a, .Name y py] [] pos) (isiC [T] f) :=
  ⟨(pe_callB call_isi hg hm PyProof.Rows.boot_isinstance (pa_cons ha.pe (pa_cons (pe_bltn (v := .ty T) hgt hmt hvt rfl hyn hyd) pa_nil he2) he) (by decide) (by decide) he hpl).imp fun σ H Q h => by
    obtain ⟨O, g, k, r0, F, e0, G, q⟩ := h
    refine ⟨O, g, _, r0, F, e0, G, fun v d O1 H1 g1 F1 gr1 p1 e1 => ?_⟩
    exact ⟨v, .ty T, _, .type T, instOf T d, rfl, .ty T, tyx_of (pM_rd p1), kit_ty (kit_data ok d), q _ (.bool (instOf T d)) O1 H1 g1 F1 gr1 rfl (by rw [← e1]; simp [instAny])⟩⟩
theorem kit_any {K : PySem.W.Frag} {d : D} : ∀ {Ts : List String}, Ts.all okTy = true → PySem.W.kitAny K (.type (tyName d)) (Ts.map .type) = some (instAny Ts d)
  | [], _ => kitAny_nil
  | T :: Ts, h => by
    rw [List.all_cons, Bool.and_eq_true] at h
    have h1 := kit_ty (K := K) (kit_data h.1 d)
    have h2 := kit_any (K := K) (d := d) h.2
    refine kitAny_cons h1 (fun hb => ?_) fun hb => ?_
    · rw [h2]; simp [instAny, hb]
    · simp [instAny, hb]
/-- isinstance(a, (S, T)) -/
theorem ds_isi2 {S T : String} {y z : Str} {py pz pt : Pos} {j} {f : DnD} (hg : Gl X "isinstance") (hm : X.mg "isinstance" = none) (hgy : Gl X y) (hmy : X.mg y = none) (hvy : bootBuiltins y = some (.type S)) (hgz : Gl X z) (hmz : X.mg z = none) (hvz : bootBuiltins z = some (.type T)) (ok : [S, T].all okTy = true) (ha : DM m X W A c a f)
    (hyn : y ≠ "__name__" := by decide) (hyd : (y == ("__debug__" : Str)) = false := by decide) (hzn : z ≠ "__name__" := by decide) (hzd : (z == ("__debug__" : Str)) = false := by decide)
    (he : starEach [a, .Tuple [.Name y py, .Name z pz] j pt] X.env = (false, eval a X.env) :: starEach [.Tuple [.Name y py, .Name z pz] j pt] X.env := by rfl)
    (he2 : starEach [.Tuple [.Name y py, .Name z pz] j pt] X.env = (false, eval (.Tuple [.Name y py, .Name z pz] j pt) X.env) :: starEach [] X.env := by rfl)
    (he3 : starEach [.Name y py, .Name z pz] X.env = (false, eval (.Name y py) X.env) :: starEach [.Name z pz] X.env := by rfl) (he4 : starEach [.Name z pz] X.env = (false, eval (.Name z pz) X.env) :: starEach [] X.env := by rfl)
    (hpl : (backTo pos (starEach [.Tuple [.Name y py, .Name z pz] j pt] X.env)).any (·.1) = false := by rfl) :
    DS X W A c (.Call (.Name "isinstance" p) [a, .Tuple [.Name y py, .Name z pz] j pt] [] pos) (isiC [S, T] f) :=
  ⟨(pe_callB call_isiT hg hm PyProof.Rows.boot_isinstance (pa_cons ha.pe (pa_cons (pe_tup (pa_cons (pe_bltn (v := .ty S) hgy hmy hvy rfl hyn hyd) (pa_cons (pe_bltn (v := .ty T) hgz hmz hvz rfl hzn hzd) pa_nil he4) he3)) pa_nil he2) he) (by decide) (by decide) he hpl).imp fun σ H Q h => by
    obtain ⟨O, g, k, r0, F, e0, G, q⟩ := h
    refine ⟨O, g, _, r0, F, e0, G, fun v d O1 H1 g1 F1 gr1 p1 e1 => ?_⟩
    refine ⟨small1000 (show 2 ≤ 1000 by decide) |> Nat.le_of_lt, fun tp n => ?_⟩
    have F2 : FI A O1 σ (upd H1 tp (.tup [.ty S, .ty T])) g1 := F1.new n
    have gr2 : Gr true O1 H1 O1 (upd H1 tp (.tup [.ty S, .ty T])) := Gr.new n fun _ h => .inl h
    refine ⟨v, tp, _, _, [.type S, .type T], instAny [S, T] d, rfl, upd_same, .cons (.ty S) (.cons (.ty T) .nil), tyx_of (gr2.rd (pM_rd p1)), kit_any ok, q _ (.bool (instAny [S, T] d)) O1 _ g1 F2 (by simpa using gr1.trans gr2) rfl e1⟩⟩
end
end Z

namespace Z
open PySem L2

section
variable {X : Cx} {W : WX} {A : Act} {c ca cb cd m m' : Bool} {e a b : Expr} {es : List Expr} {x : Str} {p pos : Pos}

/-! ### a[i] -/
def atS (z : Str) (i : Int) : Option D := if z.length ≤ sizeLine then (atI z.cps.toList i).map fun ch => .str ⟨#[ch]⟩ else none
def ixD : D → D → Option D
  | .list ds, .int i => atI ds i
  | .tuple ds, .int i => atI ds i
  | .str z, .int i => atS z i
  | _, _ => none
theorem RpAll.atI {O : Addr → Prop} {H : Hp} {ds : List D} {xs : List V} {i : Int} {d : D} (h : RpAll O H ds xs) (e : L2.atI ds i = some d) : ∃ v, L2.atI xs i = some v ∧ Rp O H d v := by
  unfold L2.atI at e ⊢
  rw [h.length]
  cases hj : ixN ds.length i with
  | none => rw [hj] at e; cases e
  | some j =>
    rw [hj] at e
    obtain ⟨v, h1, h2⟩ := h.get (i := j) e
    exact ⟨v, h1, h2⟩
theorem ru_ix : Ru2D (rIx X.K) ixD := by
  intro O H x y d e s Q ot rx ry ho hQ
  unfold ixD at ho
  split at ho
  · obtain ⟨a, xs, rfl, sq, q, _⟩ := rd_lst (K := X.K) rx
    obtain ⟨v, h1, h2⟩ := q.atI ho
    exact .inl ⟨a, xs, _, v, rfl, rd_int ry, sq, h1, hQ v h2⟩
  · obtain ⟨a, xs, rfl, sq, q, _, _⟩ := rd_tup (K := X.K) rx
    obtain ⟨v, h1, h2⟩ := q.atI ho
    exact .inr (.inl ⟨a, xs, _, v, rfl, rd_int ry, sq, h1, hQ v h2⟩)
  · unfold atS at ho
    split at ho
    · rename_i z i hz
      cases hc : L2.atI z.cps.toList i with
      | none => rw [hc] at ho; cases ho
      | some ch =>
        rw [hc] at ho
        cases ho
        exact .inr (.inr ⟨_, _, ch, rd_str rx, rd_int ry, hz, hc, hQ _ rfl⟩)
    · cases ho
  · cases ho

/-! ### a[lo:hi] -/
abbrev DnO := Gam → (Option Int → Gam → R) → R
def tGO (A : Act) (W : WX) (c : Bool) (f : DnO) : TO := fun σ H Q =>
  ∃ (O : Addr → Prop) (g : Gam) (k : Option Int → Gam → R) (r : R), FI A O σ H g ∧ f g k = r ∧ Go A W r ∧
    ∀ (o : Option Int) (O' : Addr → Prop) (H' : Hp) (g' : Gam), FI A O' σ H' g' → Gr c O H O' H' → k o g' = r → Q o H'
structure DO (X : Cx) (W : WX) (A : Act) (c : Bool) (e : Option Expr) (f : DnO) : Prop where
  po : PO X e (tGO A W c f)
theorem _root_.L2.PO.imp {e : Option Expr} {t t' : TO} (h : PO X e t) (w : ∀ σ H Q, t' σ H Q → t σ H Q) : PO X e t' := ⟨fun pins s σ H Q I q => h.run pins s σ H Q I (w σ H Q q)⟩
def noO : DnO := fun g k => k none g
def atO (f : DnD) : DnO := fun g k => f g fun d g' => match d with
  | .int i => k (some i) g'
  | _ => .err
theorem do_none : DO X W A true none noO := ⟨po_none.imp fun σ H Q ⟨O, g, k, r, F, e, G, q⟩ => q none O H g F Gr.refl e⟩
theorem do_some {f : DnD} (h : DM m X W A c e f) : DO X W A c (some e) (atO f) := ⟨(po_some h.pe).imp fun σ H Q ⟨O, g, k, r, F, e0, G, q⟩ => by
  refine ⟨O, g, _, r, F, e0, G, fun v d O1 H1 g1 F1 gr1 p1 e1 => ?_⟩
  cases d with
  | int i => exact ⟨i, rd_int (pM_rd p1), q (some i) O1 H1 g1 F1 gr1 e1⟩
  | _ => exact absurd e1.symm G.ne⟩
/-- the items of a cut -/
def cutL {α : Type} (xs : List α) (lo hi : Option Int) : List α := (xs.drop (HT.sIx xs.length 0 lo)).take (HT.sIx xs.length xs.length hi - HT.sIx xs.length 0 lo)
def cutF : D → Option Int → Option Int → Option Sl
  | .list ds, lo, hi => some (.ow (.list (cutL ds lo hi)))
  | .tuple ds, lo, hi => some (.sh (.tuple (cutL ds lo hi)))
  | .str z, lo, hi => if z.length ≤ sizeLine then some (.sh (.str (cutS z lo hi))) else none
  | _, _, _ => none
def slcC (fa : DnD) (fl fh : DnO) : DnS := fun g k => fa g fun x g1 => fl g1 fun lo g2 => fh g2 fun hi g3 => kop (cutF x lo hi) g3 k
theorem RpAll.cut {O : Addr → Prop} {H : Hp} {ds : List D} {xs : List V} (h : RpAll O H ds xs) (lo hi : Option Int) : RpAll O H (cutL ds lo hi) (cutV xs lo hi) := by
  have := h.sub (fun l => cutL l lo hi) fun g l => by unfold cutL; rw [List.length_map, ← List.map_drop, ← List.map_take]
  exact this
theorem df_slc {lo hi : Option Expr} {fa : DnD} {fl fh : DnO} {p2 : Pos} (ha : DM m X W A c a fa) (hl : DO X W A ca lo fl) (hh : DO X W A cb hi fh) (hm : (m || (ca && cb)) = true := by rfl) : DF X W A (c && (ca && cb)) (.Subscript a (.Slice lo hi none p2) pos) (slcC fa fl fh) :=
  ⟨(pe_slice (sl_list.or (sl_tupA.or sl_str)) ha.pe hl.po hh.po).imp fun σ H Q ⟨O, g, k, r0, F, e0, G, q⟩ => by
    refine ⟨O, g, _, r0, F, e0, G, fun x d O1 H1 g1 F1 gr1 p1 e1 => ?_⟩
    refine ⟨O1, g1, _, r0, F1, e1, G, fun lo O2 H2 g2 F2 gr2 e2 => ?_⟩
    refine ⟨O2, g2, _, r0, F2, e2, G, fun hi O3 H3 g3 F3 gr3 e3 => ?_⟩
    have rx : RdD O3 H3 d x := pM_rd (σ := σ) (g := g3) (pM_keep hm p1 (gr2.trans gr3))
    have gr : Gr (c && (ca && cb)) O H O3 H3 := gr1.trans (gr2.trans gr3)
    have fin : ∀ s, cutF d lo hi = some s → ∀ v H', Res O3 H3 H' v s → Q v H' := fun s hs v H' rs => by
      simp only [hs, kop] at e3
      obtain ⟨O', F', gr', pf⟩ := rs.pF F3
      exact q v s O' H' g3 F' (by simpa using gr.trans gr') pf e3
    cases d with
    | list ds =>
      obtain ⟨a, xs, rfl, sq, qa, _⟩ := rd_lst (K := X.K) rx
      exact .inl ⟨a, xs, rfl, sq, fun p n => fin _ rfl _ _ (res_lst n (qa.cut lo hi))⟩
    | tuple ds =>
      obtain ⟨a, xs, rfl, sq, qa, nO, rr⟩ := rd_tup (K := X.K) rx
      refine .inr (.inl ⟨a, xs, rfl, sq, fun hw => fin _ rfl _ _ (res_sh ⟨a, xs, rfl, nO, rr, ?_⟩), fun _ p n => fin _ rfl _ _ (res_tup F3.ot n (qa.cut lo hi))⟩)
      have e : cutL ds lo hi = ds := by
        unfold cutL
        rw [← qa.length, hw.1, hw.2, List.drop_zero, Nat.sub_zero, qa.length, List.take_length]
      rw [e]; exact qa
    | str z =>
      by_cases hz : z.length ≤ sizeLine
      · exact .inr (.inr ⟨z, rd_str rx, hz, fin (.sh (.str (cutS z lo hi))) (show (if z.length ≤ sizeLine then some (Sl.sh (.str (cutS z lo hi))) else none) = _ from if_pos hz) _ _ (res_sh rfl)⟩)
      · have : cutF (.str z) lo hi = none := (show (if z.length ≤ sizeLine then some (Sl.sh (.str (cutS z lo hi))) else none) = _ from if_neg hz)
        simp only [this, kop] at e3; exact absurd e3.symm G.ne
    | _ => exact absurd e3.symm G.ne⟩

/-! ### in, not in -/
def inB (d e : D) : Option Bool := match e with
  | .list ds => if (cmpOk d && cmpOk (.list ds)) = true then some (ds.any fun z => PyData.eqv z d) else none
  | .tuple ds => if (cmpOk d && cmpOk (.tuple ds)) = true then some (ds.any fun z => PyData.eqv z d) else none
  | _ => none
def niB (d e : D) : Option Bool := (inB d e).map not
theorem room_min {d : D} {u n : Nat} (h : SeqAt.shaped d = true) (hu : u + 65 < cLine) : u + 1 + min n d.depth < cLine := by
  have h : (d.canLay0 && decide (d.depth ≤ 64)) = true := h
  have h2 := of_decide_eq_true (Bool.and_eq_true_iff.mp h).2
  have := Nat.min_le_right n d.depth
  omega
def rInX (K : PySem.W.Frag) (neg : Bool) : R2 := fun x y H Q => ∃ d ds, Dp K H x d ∧ (Dp K H y (.list ds) ∨ Dp K H y (.tuple ds)) ∧ SeqAt.shaped d = true ∧ PyData.canLayAll0 ds = true ∧ Q (.bl (if neg then !(ds.any fun z => PyData.eqv z d) else (ds.any fun z => PyData.eqv z d))) H
theorem op_inX (hu : X.A.units + 65 < cLine) : OpR X (compareOp .In) (rInX X.K false) := by
  intro pins s σ H x y v u Q I rx ry h
  obtain ⟨d, ds, hd, he, sd, se, q⟩ := h
  obtain ⟨as, r1⟩ := Dp.reads I d x v hd rx
  rcases he with he | he
  · obtain ⟨bs, r2⟩ := Dp.reads I (.list ds) y u he ry
    exact SeqAt.in_list_reads r2 r1 se (SeqAt.canLay_of_shaped sd) (room_min sd hu) ⟨.bl _, H, I, rfl, q⟩
  · obtain ⟨bs, r2⟩ := Dp.reads I (.tuple ds) y u he ry
    exact SeqAt.in_tuple_reads r2 r1 se (SeqAt.canLay_of_shaped sd) (room_min sd hu) ⟨.bl _, H, I, rfl, q⟩
theorem op_niX (hu : X.A.units + 65 < cLine) : OpR X (compareOp .NotIn) (rInX X.K true) := by
  intro pins s σ H x y v u Q I rx ry h
  obtain ⟨d, ds, hd, he, sd, se, q⟩ := h
  obtain ⟨as, r1⟩ := Dp.reads I d x v hd rx
  rcases he with he | he
  · obtain ⟨bs, r2⟩ := Dp.reads I (.list ds) y u he ry
    exact SeqAt.notIn_list_reads r2 r1 se (SeqAt.canLay_of_shaped sd) (room_min sd hu) ⟨.bl _, H, I, rfl, q⟩
  · obtain ⟨bs, r2⟩ := Dp.reads I (.tuple ds) y u he ry
    exact SeqAt.notIn_tuple_reads r2 r1 se (SeqAt.canLay_of_shaped sd) (room_min sd hu) ⟨.bl _, H, I, rfl, q⟩
theorem ru_inX {K : PySem.W.Frag} {neg : Bool} : Ru2D (rInX K neg) (opBD fun d e => (inB d e).map fun b => if neg then !b else b) := by
  intro O H x y d e s Q ot rx ry ho hQ
  have ho : ((inB d e).map fun b => if neg = true then !b else b).map PyData.bool = some s := ho
  cases hb : inB d e with
  | none => rw [hb] at ho; cases ho
  | some bb =>
    rw [hb] at ho
    cases ho
    unfold inB at hb
    split at hb
    · rename_i ds
      split at hb
      · rename_i hc
        obtain ⟨h1, h2⟩ := Bool.and_eq_true_iff.mp hc
        cases hb
        exact ⟨d, ds, rx.dp (cmpOk_dict h1), .inl (ry.dp (cmpOk_dict h2)), h1, SeqAt.canLay_of_shaped h2, hQ _ rfl⟩
      · cases hb
    · rename_i ds
      split at hb
      · rename_i hc
        obtain ⟨h1, h2⟩ := Bool.and_eq_true_iff.mp hc
        cases hb
        exact ⟨d, ds, rx.dp (cmpOk_dict h1), .inr (ry.dp (cmpOk_dict h2)), h1, SeqAt.canLay_of_shaped h2, hQ _ rfl⟩
      · cases hb
    · cases hb
theorem ru_in {K : PySem.W.Frag} : Ru2D (rInX K false) (opBD inB) := by
  have h := ru_inX (K := K) (neg := false)
  have e : (fun d e => (inB d e).map fun b => if false = true then !b else b) = inB := by funext d e; cases inB d e <;> rfl
  rw [e] at h
  exact h
theorem ru_ni {K : PySem.W.Frag} : Ru2D (rInX K true) (opBD niB) := ru_inX (K := K) (neg := true)

/-! ### is, is not: truth values -/
def isBB : D → D → Option Bool
  | .bool x, .bool y => some (decide (x = y))
  | _, _ => none
def noBB : D → D → Option Bool
  | .bool x, .bool y => some (!decide (x = y))
  | _, _ => none
theorem ru_isB : Ru2D rIsB (opBD isBB) := by
  intro O H x y d e s Q ot rx ry ho hQ
  unfold opBD isBB at ho
  split at ho
  · cases ho; exact ⟨_, _, rd_bl rx, rd_bl ry, hQ _ rfl⟩
  · cases ho
theorem ru_noB : Ru2D rNotB (opBD noBB) := by
  intro O H x y d e s Q ot rx ry ho hQ
  unfold opBD noBB at ho
  split at ho
  · cases ho; exact ⟨_, _, rd_bl rx, rd_bl ry, hQ _ rfl⟩
  · cases ho

/-! ### a < b < d -/
def chnB (o1 o2 : D → D → Option Bool) (fa fb fc : DnD) : DnB := fun g k => fa g fun x g1 => fb g1 fun y g2 => match o1 x y with
  | some true => fc g2 fun z g3 => match o2 y z with
    | some s => k s g3
    | none => .err
  | some false => k false g2
  | none => .err
end
end Z

namespace Z
open PySem L2

/-! ### a[::-1] -/
section
open PySem.Spec PyProof.Rows
variable {prog : Program} {w : World} {A : Around} {E : Value → Shared → Prop} {s : Shared}
theorem adjust_rev (n : Nat) : Builtin.Slice.sliceAdjust none none (-1) (n : Int) = ((n : Int) - 1, -1) := by
  unfold Builtin.Slice.sliceAdjust
  rfl
theorem places_rev (n : Nat) : Builtin.Slice.slicePlaces ((n : Int) - 1) (-1) (-1) = n := by
  unfold Builtin.Slice.slicePlaces
  have h1 : ¬ ((-1 : Int) > 0) := by omega
  simp only [h1, if_false]
  have h2 : (- -1 : Int) = 1 := by decide
  rw [h2, Int.ediv_one]
  split <;> omega
theorem applied_rev {sl : Addr} {vl vu vs : Value} {n : Nat} {Q : Int × Int × Nat → Shared → Prop} (hs : s.heap.IsSliceOf sl vl vu vs) (pl : IsPart vl none) (pu : IsPart vu none) (ps : IsPart vs (some (-1)))
    (h : Q ((n : Int) - 1, -1, n) s) : wpAny (model prog w) A (Builtin.Slice.sliceApplied (.ref sl) (pure (n : Int))) Q E s := by
  obtain ⟨os, hos, hcs, hds⟩ := id hs
  unfold Builtin.Slice.sliceApplied Builtin.Slice.sliceFields
  refine wpAny_bind (wpAny_bind (wpAny_field hos hds (x := vl) rfl (wpAny_bind (wpAny_field hos hds (x := vu) rfl (wpAny_bind (wpAny_field hos hds (x := vs) rfl (wpAny_pure ?_)))))))
  refine wpAny_bind (HT.slicePart_ ps ?_)
  show wpAny _ _ (if ((-1 : Int) == 0) = true then _ else _) _ _ s
  rw [if_neg (by decide)]
  refine wpAny_bind (HT.slicePart_ pl (wpAny_bind (HT.slicePart_ pu (wpAny_bind (wpAny_pure ?_)))))
  show wpAny _ _ (match Builtin.Slice.sliceAdjust none none (-1) (n : Int) with | (lo, hi) => pure (lo, (-1 : Int), Builtin.Slice.slicePlaces lo hi (-1))) _ _ s
  rw [adjust_rev n]
  show wpAny _ _ (pure ((n : Int) - 1, (-1 : Int), Builtin.Slice.slicePlaces ((n : Int) - 1) (-1) (-1))) _ _ s
  rw [places_rev]
  exact wpAny_pure h
theorem pick_rev {α : Type} (xs : Array α) : ((List.range xs.size).filterMap fun (m : Nat) => xs[((xs.size : Int) - 1 + (m : Int) * (-1)).toNat]?).toArray = xs.toList.reverse.toArray := by
  have e : (fun (m : Nat) => xs[((xs.size : Int) - 1 + (m : Int) * (-1)).toNat]?) = ((xs[·]?) ∘ fun m => xs.size - 1 - m) := by
    funext m
    show _ = xs[xs.size - 1 - m]?
    congr 1
    omega
  rw [e, ← List.filterMap_map, PySem.W.krv_range, List.filterMap_reverse, PySem.W.krv_all]
theorem getItem_tuple_rev {t sl : Addr} {items : Array Value} {vl vu vs : Value} {Q : Value → Shared → Prop} (ht : IsTup s.heap t items) (hs : s.heap.IsSliceOf sl vl vu vs) (pl : IsPart vl none) (pu : IsPart vu none) (ps : IsPart vs (some (-1)))
    (h : Q (.ref s.heap.objs.size) { s with heap := s.heap.push { cls := .type "tuple", data := .seq items.toList.reverse.toArray } })
    (hsz : items.size ≤ sizeLine) : wpAny (model prog w) A (getItem (.ref t) (.ref sl)) Q E s := by
  have htake : sizeOk (.seq items.toList.reverse.toArray) := by
    show items.toList.reverse.toArray.size ≤ sizeLine
    rw [List.size_toArray, List.length_reverse, Array.length_toList]
    exact hsz
  obtain ⟨os, hos, hcs, hds⟩ := id hs
  have hTs : s.TypeIs (.ref sl) "slice" := ⟨os, hos, hcs⟩
  unfold getItem
  try with_reducible refine wpAny_holding ?_
  first | refine wpAny_bind (wpAny_pure ?_) | skip
  refine wpAny_bind (wpAny_sequenceKey ht.typeIs (by decide) ?_)
  refine wpAny_bind (wpAny_callSpecial?_slot (name := Str.ofString "__getitem__") ht.typeIs PyProof.Rows.slot_tuple_getitem
    (wpAny_call_entry PyProof.Rows.slot_tuple_getitem ht.typeIs entry_tuple_getitem ?_ (args_tuple_getitem _ _)))
  show wpAny _ _ (Builtin.Tuple.tupleItemsOf (.ref t) >>= _) _ _ s
  refine wpAny_bind (tupleItemsOf_ ht ?_)
  refine wpAny_bind (wpAny_typeOf hTs ?_)
  rw [if_pos (by decide)]
  refine wpAny_bind (applied_rev hs pl pu ps ?_)
  have hno : ¬ ((((items.size : Int) - 1) == 0 && (-1 : Int) == 1 && items.size == items.size) = true) := by
    simp
  show wpAny _ _ (if (((items.size : Int) - 1) == 0 && (-1 : Int) == 1 && items.size == items.size) = true then _ else _) _ _ s
  rw [if_neg hno, pick_rev]
  first
    | exact wpAny_bind (m := Builtin.Tuple.tupleExact _) (wpAny_newObj_type (wpAny_pure ⟨_, rfl, wpAny_pure h⟩) htake)
    | exact wpAny_bind (m := Builtin.Tuple.tupleExact _) (wpAny_newObj_type (wpAny_bind (wpAny_pure (wpAny_pure ⟨_, rfl, wpAny_pure h⟩))) htake)
    | exact wpAny_bind (wpAny_bind (m := Builtin.Tuple.tupleExact _) (wpAny_newObj_type (wpAny_pure (wpAny_pure ⟨_, rfl, wpAny_pure h⟩)) htake))
    | exact wpAny_bind (wpAny_bind (m := Builtin.Tuple.tupleExact _) (wpAny_newObj_type (wpAny_pure ⟨_, rfl, wpAny_pure h⟩) htake))
end
/-- a text, turned -/
def revS (z : Str) : Str := ⟨z.cps.toList.reverse.toArray⟩
theorem picked_rev (z : Str) : ((Builtin.Str.strSliceIndices none none (-1) z.length).filterMap (z.cps[·]?)).toArray = z.cps.toList.reverse.toArray := by
  have e : Builtin.Str.strSliceIndices none none (-1) z.length = (List.range z.cps.size).map fun k => z.cps.size - 1 - k := PySem.W.krv_sliceRange z.cps.size
  rw [e, PySem.W.krv_range, List.filterMap_reverse, PySem.W.krv_all]
def tRevA (K : PySem.W.Frag) (te : TE) : TE := fun σ H Q => te σ H fun x H1 => (∃ a xs, x = .ref a ∧ SqL K H1 a xs ∧ ∀ p, H1 p = none → Q (.ref p) (upd H1 p (.lst xs.reverse))) ∨
  (∃ a xs, x = .ref a ∧ SqT K H1 a xs ∧ ∀ p, H1 p = none → Q (.ref p) (upd H1 p (.tup xs.reverse))) ∨ ∃ z, x = .str z ∧ z.length ≤ sizeLine ∧ Q (.str (revS z)) H1
section
open PySem.Spec PyProof.Rows
theorem pe_revA {X : Cx} {e : Expr} {te : TE} {k : Nat} {p1 p2 p3 pos : Pos} (he : PE X e te) : PE X (.Subscript e (.Slice none none (some (.UnaryOp .USub (.Constant (.int 1) k p1) p2)) p3) pos) (tRevA X.K te) := by
  refine ⟨fun pins s σ H Q I h => ?_⟩
  refine Subscript_ (thn (he.run pins s σ H _ I h) fun v s1 ⟨x, H1, I1, r1, q1⟩ => ?_)
  have hst : PO X (some (.UnaryOp .USub (.Constant (.int 1) k p1) p2)) (tPart (tUn (rU fun i => .int (-i)) (tC (.int 1)))) := po_some (pe_un un_neg pe_int)
  refine wpAny_Slice (thn (po_none.run pins s1 σ H1 (fun o H2 => o = none ∧ H2 = H1) I1 ⟨rfl, rfl⟩) fun vl s2 ⟨l, H2, I2, pl, el, e2⟩ => ?_)
  subst el e2
  refine thn (po_none.run pins s2 σ H2 (fun o H3 => o = none ∧ H3 = H2) I2 ⟨rfl, rfl⟩) fun vu s3 ⟨u, H3, I3, pu, eu, e3⟩ => ?_
  subst eu e3
  refine thn (hst.run pins s3 σ H3 (fun o H4 => o = some (-1) ∧ H4 = H3) I3 ⟨1, rfl, -1, rfl, rfl, rfl⟩) fun vs s4 ⟨o, H4, I4, ps, eo, e4⟩ => ?_
  subst eo e4
  have I5 : Inv X pins σ H4 { s4 with heap := s4.heap.push { cls := .type "slice", data := .fields #[vl, vu, vs] } } := I4.kept (t' := s4.toks) fun b ob q => Heap.get?_push_of_some _ q
  rcases q1 with ⟨a, xs, ex, hx, q⟩ | ⟨a, xs, ex, hx, q⟩ | ⟨z, ex, hz, q⟩
  · subst ex
    cases r1
    obtain ⟨its, r, ht, hz⟩ := I5.list hx
    have hlen := r.length
    show wpAny (model X.prog X.w) X.A (subscriptTail e (.Slice none none (some (.UnaryOp .USub (.Constant (.int 1) k p1) p2)) p3) (.ref a) (.ref s4.heap.objs.size)) (EP X pins σ Q) X.xe { s4 with heap := s4.heap.push { cls := .type "slice", data := .fields #[vl, vu, vs] } }
    refine tail_any (ops := [.ref a, .ref s4.heap.objs.size]) ht.isList.typeIs (PySem.slot_list_getitem.lookup) ?_ (by with_unfolding_all rfl)
    refine wpAny_getItem_list_slice ht.isList (Heap.IsSliceOf.new _ vl vu vs) pl pu ps (by decide) ?_ (by rw [List.size_toArray]; omega)
    rw [PySem.W.krv_pick]
    refine ⟨.ref _, _, I5.laid (t' := s4.toks) (o := .lst xs.reverse) (fun b ob q => Heap.get?_push_of_some _ q) (Nat.le_refl _) ?_, rfl, q _ (I5.hok.fresh (Nat.le_refl _))⟩
    exact ⟨by rw [List.length_reverse]; exact hz, _, 0, r.reverse, Heap.get?_push_size _ rfl⟩
  · subst ex
    cases r1
    obtain ⟨its, r, ht, hz⟩ := I5.tuple hx
    have hlen := r.length
    show wpAny (model X.prog X.w) X.A (subscriptTail e (.Slice none none (some (.UnaryOp .USub (.Constant (.int 1) k p1) p2)) p3) (.ref a) (.ref s4.heap.objs.size)) (EP X pins σ Q) X.xe { s4 with heap := s4.heap.push { cls := .type "slice", data := .fields #[vl, vu, vs] } }
    refine tail_any (ops := [.ref a, .ref s4.heap.objs.size]) ht.typeIs (PyProof.Rows.slot_tuple_getitem.lookup) ?_ (by with_unfolding_all rfl)
    refine getItem_tuple_rev ht (Heap.IsSliceOf.new _ vl vu vs) pl pu ps ?_ (by rw [List.size_toArray]; omega)
    refine ⟨.ref _, _, I5.laid (t' := s4.toks) (o := .tup xs.reverse) (fun b ob q => Heap.get?_push_of_some _ q) (Nat.le_refl _) ?_, rfl, q _ (I5.hok.fresh (Nat.le_refl _))⟩
    exact ⟨by rw [List.length_reverse]; exact hz, _, r.reverse, IsTup.new _ _⟩
  · subst ex
    obtain ⟨t, rfl⟩ := r1
    show wpAny (model X.prog X.w) X.A (subscriptTail e (.Slice none none (some (.UnaryOp .USub (.Constant (.int 1) k p1) p2)) p3) (.str z t) (.ref s4.heap.objs.size)) (EP X pins σ Q) X.xe { s4 with heap := s4.heap.push { cls := .type "slice", data := .fields #[vl, vu, vs] } }
    refine tail_any (ops := [.str z t, .ref s4.heap.objs.size]) (typeIs_str _ z t) (PySem.F.slot_str_getitem.lookup) ?_ (by with_unfolding_all rfl)
    obtain ⟨l, e1, e1'⟩ := IsPart.raw pl
    obtain ⟨u, e2, e2'⟩ := IsPart.raw pu
    obtain ⟨st, e3, e3'⟩ := IsPart.raw ps
    obtain ⟨os, hos, hcs, hds⟩ := Heap.IsSliceOf.new s4.heap vl vu vs
    refine wpAny_getItem_str_slice (l := l) (u := u) (st := st) ⟨os, hos, hcs, by rw [hds, e1, e2, e3]⟩ (by rw [e3']; rfl) ?_
    unfold sliceMade slicePicked
    rw [e1', e2', e3']
    show Made.post (if ((-1 : Int) == 1 && (Builtin.Str.strSliceIndices none none (-1) z.length).length == z.length) = true then _ else Made.str ⟨((Builtin.Str.strSliceIndices none none (-1) z.length).filterMap (z.cps[·]?)).toArray⟩) _ _
    rw [if_neg (by simp), picked_rev]
    refine ⟨?_, .str _, H4, I5.tok _, ⟨_, rfl⟩, q⟩
    show z.cps.toList.reverse.toArray.size ≤ sizeLine
    rw [List.size_toArray, List.length_reverse, Array.length_toList]
    exact hz
end
def revF : D → Option Sl
  | .list ds => some (.ow (.list ds.reverse))
  | .tuple ds => some (.sh (.tuple ds.reverse))
  | .str z => if z.length ≤ sizeLine then some (.sh (.str (revS z))) else none
  | _ => none
def unF (op : D → Option Sl) (fa : DnD) : DnS := fun g k => fa g fun x g1 => kop (op x) g1 k
section
variable {X : Cx} {W : WX} {A : Act} {c ca cb cd m m' m2 : Bool} {e a b d : Expr} {es : List Expr} {x : Str} {p pos : Pos}
theorem df_rev {fa : DnD} {k : Nat} {p1 p2 p3 : Pos} (ha : DM m X W A c a fa) : DF X W A c (.Subscript a (.Slice none none (some (.UnaryOp .USub (.Constant (.int 1) k p1) p2)) p3) pos) (unF revF fa) :=
  ⟨(pe_revA ha.pe).imp fun σ H Q ⟨O, g, k, r0, F, e0, G, q⟩ => by
    refine ⟨O, g, _, r0, F, e0, G, fun x d O1 H1 g1 F1 gr1 p1 e1 => ?_⟩
    have rx : RdD O1 H1 d x := pM_rd p1
    have fin : ∀ s, revF d = some s → ∀ v H', Res O1 H1 H' v s → Q v H' := fun s hs v H' rs => by
      simp only [hs, kop] at e1
      obtain ⟨O', F', gr', pf⟩ := rs.pF F1
      exact q v s O' H' g1 F' (by simpa using gr1.trans gr') pf e1
    have rev : ∀ {ds : List D} {xs : List V}, RpAll O1 H1 ds xs → RpAll O1 H1 ds.reverse xs.reverse := fun q => q.sub (fun l => l.reverse) fun g l => by rw [List.map_reverse]
    cases d with
    | list ds =>
      obtain ⟨a, xs, rfl, sq, qa, _⟩ := rd_lst (K := X.K) rx
      exact .inl ⟨a, xs, rfl, sq, fun p n => fin _ rfl _ _ (res_lst n (rev qa))⟩
    | tuple ds =>
      obtain ⟨a, xs, rfl, sq, qa, nO, rr⟩ := rd_tup (K := X.K) rx
      exact .inr (.inl ⟨a, xs, rfl, sq, fun p n => fin _ rfl _ _ (res_tup F1.ot n (rev qa))⟩)
    | str z =>
      by_cases hz : z.length ≤ sizeLine
      · exact .inr (.inr ⟨z, rd_str rx, hz, fin (.sh (.str (revS z))) (show (if z.length ≤ sizeLine then some (Sl.sh (.str (revS z))) else none) = _ from if_pos hz) _ _ (res_sh rfl)⟩)
      · have : revF (.str z) = none := (show (if z.length ≤ sizeLine then some (Sl.sh (.str (revS z))) else none) = _ from if_neg hz)
        simp only [this, kop] at e1; exact absurd e1.symm G.ne
    | _ => exact absurd e1.symm G.ne⟩

/-! ### chains -/
theorem db_chn {op op' : CmpOp} {r r' : R2} {o1 o2 : D → D → Option Bool} {fa fb fc : DnD} (ho : OpR X (compareOp op) r) (hv : Ru2D r (opBD o1)) (ho' : OpR X (compareOp op') r') (hv' : Ru2D r' (opBD o2)) (ha : DM m X W A ca a fa) (hb : DM m' X W A cb b fb) (hd : DM m2 X W A cd d fc)
    (hk : ((m || cb) && (m' || cd)) = true := by rfl) (hm : lastMarks [op, op'] [b, d] = false := by with_unfolding_all rfl) : DB X W A (ca && (cb && cd)) (.Compare a [op, op'] [b, d] pos) (chnB o1 o2 fa fb fc) :=
  ⟨(pt_chain ho ho' ha.pe hb.pe hd.pe hm).imp fun σ H Q ⟨O, g, k, r0, F, e0, G, q⟩ => by
    obtain ⟨k1, k2⟩ := Bool.and_eq_true_iff.mp hk
    refine ⟨O, g, _, r0, F, e0, G, fun x dx O1 H1 g1 F1 gr1 p1 e1 => ?_⟩
    refine ⟨O1, g1, _, r0, F1, e1, G, fun y dy O2 H2 g2 F2 gr2 p2 e2 => ?_⟩
    have rx : RdD O2 H2 dx x := pM_rd (σ := σ) (g := g2) (pM_keep k1 p1 gr2)
    cases h1 : o1 dx dy with
    | none => simp only [h1] at e2; exact absurd e2.symm G.ne
    | some b1 =>
      simp only [h1] at e2
      refine hv O2 H2 x y dx dy (.bool b1) _ F2.ot rx (pM_rd p2) (by unfold opBD; rw [h1]; rfl) fun v rv => ⟨b1, rv, ?_⟩
      cases b1 with
      | false => exact iteF ⟨false, rfl, q false O2 H2 g2 F2 ⟨(gr1.trans gr2).1, fun h => by
          have h := Bool.and_eq_true_iff.mp h
          exact (gr1.2 h.1).trans (gr2.2 (Bool.and_eq_true_iff.mp h.2).1)⟩ e2⟩
      | true =>
        refine iteT ⟨O2, g2, _, r0, F2, e2, G, fun z dz O3 H3 g3 F3 gr3 p3 e3 => ?_⟩
        have ry : RdD O3 H3 dy y := pM_rd (σ := σ) (g := g3) (pM_keep k2 p2 gr3)
        cases h2 : o2 dy dz with
        | none => simp only [h2] at e3; exact absurd e3.symm G.ne
        | some b2 =>
          simp only [h2] at e3
          exact hv' O3 H3 y z dy dz (.bool b2) _ F3.ot ry (pM_rd p3) (by unfold opBD; rw [h2]; rfl) fun v rv => ⟨b2, rv, q b2 O3 H3 g3 F3 (gr1.trans (gr2.trans gr3)) e3⟩⟩

/-! ### sep.join(xs) -/
def strsD : List D → Option (List Str)
  | [] => some []
  | .str x :: ds => (strsD ds).map (x :: ·)
  | _ :: _ => none
def joinD : D → D → Option D
  | .str a, .list ds => (strsD ds).bind fun ys => if (ys.map (·.length)).sum + ys.length * a.length ≤ 16777216 then some (.str (Txt.join a ys)) else none
  | .str a, .tuple ds => (strsD ds).bind fun ys => if (ys.map (·.length)).sum + ys.length * a.length ≤ 16777216 then some (.str (Txt.join a ys)) else none
  | _, _ => none
theorem strs_vals {O : Addr → Prop} {H : Hp} : ∀ {ds : List D} {xs : List V} {ys : List Str}, RpAll O H ds xs → strsD ds = some ys → xs = ys.map V.str
  | [], xs, ys, q, h => by cases h; exact q
  | .str x :: ds, _, ys, ⟨v, vs, e, r, q⟩, h => by
    unfold strsD at h
    cases hs : strsD ds with
    | none => rw [hs] at h; cases h
    | some zs =>
      rw [hs] at h
      cases h
      rw [e, strs_vals q hs, (show v = _ from r)]
      rfl
  | .none :: _, _, _, _, h => by cases h
  | .bool _ :: _, _, _, _, h => by cases h
  | .int _ :: _, _, _, _, h => by cases h
  | .list _ :: _, _, _, _, h => by cases h
  | .tuple _ :: _, _, _, _, h => by cases h
  | .dict _ :: _, _, _, _, h => by cases h
def joinC (fa fb : DnD) : DnD := fun g k => fa g fun x g1 => match x with
  | .str _ => fb g1 fun y g2 => kopD (joinD x y) g2 k
  | _ => .err
theorem ds_join {fa fb : DnD} {apos : Pos} (ha : DM m X W A ca a fa) (hb : DM m' X W A cb b fb) (hm : (m || cb) = true := by rfl) (hs : starEach [b] X.env = [(false, eval b X.env)] := by rfl) (hbase : attributeBase a "join" X.env (eval a X.env) = eval a X.env := by rfl) (hline : (apos.endLine == pos.line) = true := by rfl) :
    DS X W A (ca && cb) (.Call (.Attribute a "join" apos) [b] [] pos) (joinC fa fb) :=
  ⟨(pe_join ha.pe hb.pe hs hbase hline).imp fun σ H Q ⟨O, g, k, r0, F, e0, G, q⟩ => by
    refine ⟨O, g, _, r0, F, e0, G, fun x d O1 H1 g1 F1 gr1 p1 e1 => ?_⟩
    cases d with
    | str sep =>
      refine ⟨⟨sep, rd_str (pM_rd p1)⟩, O1, g1, _, r0, F1, e1, G, fun y d2 O2 H2 g2 F2 gr2 p2 e2 => ?_⟩
      have rx := rd_str (pM_rd p1)
      have ry : RdD O2 H2 d2 y := pM_rd p2
      cases ho : joinD (.str sep) d2 with
      | none => simp only [ho, kopD] at e2; exact absurd e2.symm G.ne
      | some s =>
        simp only [ho, kopD] at e2
        have go : ∀ (ds : List D) (xs : List V), RpAll O2 H2 ds xs → ((strsD ds).bind fun ys => if (ys.map (·.length)).sum + ys.length * sep.length ≤ 16777216 then some (PyData.str (Txt.join sep ys)) else none) = some s →
            ∃ ys, xs = ys.map V.str ∧ (ys.map (·.length)).sum + ys.length * sep.length ≤ 16777216 ∧ s = .str (Txt.join sep ys) := fun ds xs qa h => by
          cases hy : strsD ds with
          | none => rw [hy] at h; cases h
          | some ys =>
            rw [hy] at h
            have h : (if (ys.map (·.length)).sum + ys.length * sep.length ≤ 16777216 then some (PyData.str (Txt.join sep ys)) else none) = some s := h
            by_cases hz : (ys.map (·.length)).sum + ys.length * sep.length ≤ 16777216
            · rw [if_pos hz] at h
              exact ⟨ys, strs_vals qa hy, hz, (Option.some.inj h).symm⟩
            · rw [if_neg hz] at h; cases h
        cases d2 with
        | list ds =>
          obtain ⟨p, xs, rfl, sq, qa, _⟩ := rd_lst (K := X.K) ry
          obtain ⟨ys, e1, hz, rfl⟩ := go ds xs qa ho
          subst e1
          exact ⟨sep, p, ys, rx, rfl, .inl sq, hz, q _ (.str (Txt.join sep ys)) O2 H2 g2 F2 (gr1.trans gr2) rfl e2⟩
        | tuple ds =>
          obtain ⟨p, xs, rfl, sq, qa, _, _⟩ := rd_tup (K := X.K) ry
          obtain ⟨ys, e1, hz, rfl⟩ := go ds xs qa ho
          subst e1
          exact ⟨sep, p, ys, rx, rfl, .inr sq, hz, q _ (.str (Txt.join sep ys)) O2 H2 g2 F2 (gr1.trans gr2) rfl e2⟩
        | _ => cases ho
    | _ => exact absurd e1.symm G.ne⟩
end
end Z

namespace Z
open PySem L2

section
variable {X : Cx} {W : WX} {A : Act} {c ca cb m m' : Bool} {e a b : Expr} {es : List Expr} {x : Str} {p pos : Pos}
/-! ### what is never run -/
def errT : DnT := fun _ _ => .err
theorem dt_err {st : Stmt} : DT X W A st errT := ⟨⟨fun _ _ _ _ _ _ ⟨_, _, _, _, _, e, Eo', _⟩ => absurd e.symm Eo'.go.ne⟩⟩
def errD : DnD := fun _ _ => .err
theorem ds_err : DS X W A true e errD := ⟨⟨fun _ _ _ _ _ _ ⟨_, _, _, _, _, h, G, _⟩ => absurd h.symm G.ne⟩⟩
theorem room_u {k : Nat} {A : Around} (r : Room k A) : A.units + 65 < cLine := by have := r.un; omega
def isNoneB (d e : D) : Option Bool := match e with
  | .none => isNB d e
  | _ => none
def noNoneB (d e : D) : Option Bool := match e with
  | .none => noNB d e
  | _ => none
theorem ru_isNone : Ru2D (fun x y H Q => y = .non ∧ Q (.bl (decide (x = .non))) H) (opBD isNoneB) := ru_isN
theorem ru_noNone : Ru2D (fun x y H Q => y = .non ∧ Q (.bl (!decide (x = .non))) H) (opBD noNoneB) := ru_noN

/-! ### {} -/
def dctC : DnS := fun g k => k (.ow (.dict [])) g
theorem df_dctK : DF X W A true (.Dict [] [] pos) dctC := ⟨pe_dnewK.imp fun σ H Q ⟨O, g, k, r, F, e, G, q⟩ => fun p n => by
  have rs : Res O H (upd H p (.dK [])) (.ref p) (.ow (.dict [])) := ⟨same_new n, p, rfl, n, [], .inl ⟨[], upd_same, rfl, rfl⟩, rfl⟩
  obtain ⟨O', F', gr', pf⟩ := rs.pF F
  exact q _ _ O' _ g F' gr' pf e⟩
theorem df_dctT : DF X W A true (.Dict [] [] pos) dctC := ⟨pe_dnewT.imp fun σ H Q ⟨O, g, k, r, F, e, G, q⟩ => fun p n => by
  have rs : Res O H (upd H p (.dT [])) (.ref p) (.ow (.dict [])) := ⟨same_new n, p, rfl, n, [], .inr ⟨[], upd_same, rfl, rfl⟩, rfl⟩
  obtain ⟨O', F', gr', pf⟩ := rs.pF F
  exact q _ _ O' _ g F' gr' pf e⟩

/-! ### tuple(text), list(text) -/
theorem signsV {x : Str} {acc : Array Value} (h : ItemsOf (SignAt x) acc x.cps.size) : Vals (x.cps.toList.map fun c => V.str ⟨#[c]⟩) acc.toList := by
  have key : ∀ (cs : List Nat) (us : List Value), us.length = cs.length → (∀ (i : Nat) (v : Value), us[i]? = some v → ∃ c t, cs[i]? = some c ∧ v = .str ⟨#[c]⟩ t) → Vals (cs.map fun c => V.str ⟨#[c]⟩) us := by
    intro cs
    induction cs with
    | nil => intro us hl _; cases us with
      | nil => exact .nil
      | cons _ _ => simp at hl
    | cons c cs ih =>
      intro us hl hi
      cases us with
      | nil => simp at hl
      | cons u us =>
        obtain ⟨c', t, e1, e2⟩ := hi 0 u rfl
        cases e1
        exact .cons ⟨t, e2⟩ (ih us (by simpa using hl) fun i v hv => by
          obtain ⟨c, t, e1, e2⟩ := hi (i + 1) v (by simpa using hv)
          exact ⟨c, t, by simpa using e1, e2⟩)
  refine key _ _ (by rw [Array.length_toList, Array.length_toList, h.1]) fun i v hv => ?_
  obtain ⟨c, t, e1, e2⟩ := h.2 i v (by simpa using hv)
  exact ⟨c, t, by simpa using e1, e2⟩
def rTupS : List V → Hp → VK → Prop := fun xs H Q => ∃ z, xs = [.str z] ∧ z.length ≤ sizeLine ∧ ∀ p, H p = none → Q (.ref p) (upd H p (.tup (z.cps.toList.map fun c => V.str ⟨#[c]⟩)))
theorem call_tupS (hc : X.calm = true) : CallR X (.type "tuple") rTupS := by
  intro pins s σ H xs us Q I r h
  obtain ⟨z, rfl, hz, q⟩ := h
  obtain ⟨u, rfl, t, rfl⟩ := vals1 r
  refine PySem.call_tuple_str (I.ok.hd hc) z t (fun h' tk acc kp ha => ?_) hz
  have I1 : Inv X pins σ H { s with heap := h' } := I.kept (t' := s.toks) kp
  have I2 : Inv X pins σ (upd H h'.objs.size (.tup (z.cps.toList.map fun c => V.str ⟨#[c]⟩))) { s with heap := h'.push { cls := .type "tuple", data := .seq acc }, toks := tk } :=
    I1.laid (t' := tk) (fun b o e => Heap.get?_push_of_some _ e) (Nat.le_refl _) (show ObjOk X.prog X.w _ _ _ (.tup (z.cps.toList.map fun c => V.str ⟨#[c]⟩)) from ⟨by rw [List.length_map]; exact hz, acc.toList, signsV ha, by
      have e : acc.toList.toArray = acc := by simp
      rw [e]; exact PyProof.Rows.IsTup.new _ _⟩)
  exact ⟨.ref h'.objs.size, _, I2, rfl, q _ (I1.hok.fresh (Nat.le_refl _))⟩
def tupX : List D → Option D
  | [.str z] => if z.length ≤ sizeLine then some (.tuple (signs z)) else none
  | ds => tupD ds
theorem rpAll_signs {O : Addr → Prop} {H : Hp} (z : Str) : RpAll O H (signs z) (z.cps.toList.map fun c => V.str ⟨#[c]⟩) := by
  unfold signs
  generalize z.cps.toList = l
  induction l with
  | nil => rfl
  | cons c l ih => exact ⟨_, _, rfl, rfl, ih⟩
theorem ru_tupX : RuC (fun xs H Q => rTupS xs H Q ∨ ∃ p ys, xs = [.ref p] ∧ ((SqL X.K H p ys ∧ ∀ l, H l = none → Q (.ref l) (upd H l (.tup ys))) ∨ (SqT X.K H p ys ∧ Q (.ref p) H))) (fun ds => (tupX ds).map .sh) := by
  intro O H vs ds s Q ot rd ho hQ
  replace ho : (tupX ds).map .sh = some s := ho
  unfold tupX at ho
  split at ho
  · rename_i z
    by_cases hz : z.length ≤ sizeLine
    · rw [if_pos hz] at ho
      cases ho
      obtain ⟨v, rfl, r⟩ := rdl1 rd
      exact .inl ⟨z, by rw [rd_str r], hz, fun p n => hQ _ _ (res_tup ot n (rpAll_signs z))⟩
    · rw [if_neg hz] at ho; cases ho
  · exact .inr (ru_tupOf O H vs ds s Q ot rd ho hQ)
theorem ds_tuple {y : Expr} {fs : DnL} (hcalm : X.calm = true) (hg : Gl X "tuple") (hm : X.mg "tuple" = none) (ha : DL m X W A c [y] fs)
    (he : starEach [y] X.env = (false, eval y X.env) :: starEach [] X.env := by rfl) (hpl : (backTo pos (starEach [] X.env)).any (·.1) = false := by rfl) : DS X W A c (.Call (.Name "tuple" p) [y] [] pos) (opsD tupX fs) :=
  (df_callTy ru_tupX ((call_tupS hcalm).or call_tuple_of) hg hm PyProof.Rows.boot_tuple ha (by decide) (by decide) he hpl).d
end

/-! ### a def, told by its name -/
structure Fok (P : Program) (w : World) (K : PySem.W.Frag) (mg : Str → Option Value) (base : Heap) (cls : Nat → Option Value) (k : Nat) (x : Str) (n : Nat) (rf : List Nat) (φ : Fd) : Prop where
  ex : ∃ (f : Addr) (fd : FuncData) (ps : List Str), FnOk P w K mg base (L2.CX P w) k f fd ps (spD cls n rf φ) ∧ mg x = some (.ref f) ∧ PySem.W.keepIn K (.ref f) = true ∧ Binds K fd ps [] ∧ ps.length = n
theorem Fok.cal {X : Cx} {cls : Nat → Option Value} {k : Nat} {x : Str} {n : Nat} {rf : List Nat} {φ : Fd} (F : Fok X.prog X.w X.K X.mg X.base cls k x n rf φ) : Cal X cls k x n rf φ := ⟨by
  obtain ⟨f, fd, ps, h1, h2, h3, h4, h5⟩ := F.ex
  exact ⟨f, fd, ps, h1, h2, h3, h4⟩⟩
theorem Fok.mono {P : Program} {w : World} {K : PySem.W.Frag} {mg : Str → Option Value} {base : Heap} {cls : Nat → Option Value} {j k : Nat} {x : Str} {n : Nat} {rf : List Nat} {φ : Fd} (F : Fok P w K mg base cls j x n rf φ) (h : j ≤ k) : Fok P w K mg base cls k x n rf φ := ⟨by
  obtain ⟨f, fd, ps, h1, h2, h3, h4, h5⟩ := F.ex
  exact ⟨f, fd, ps, h1.mono h, h2, h3, h4, h5⟩⟩
/-- where a def stands: i, its number in the program's top -/
def DefAt (K : PySem.W.Frag) (mg : Str → Option Value) (x : Str) (st : Stmt) : Prop := ∃ (f : Addr) (fd : FuncData), FunD K x x (defArgs st) (defBody st) (defScope st) [] [] f fd ∧ mg x = some (.ref f)
theorem fnok_of {P : Program} {w : World} {K : PySem.W.Frag} {mg : Str → Option Value} {base : Heap} {cls : Nat → Option Value} {x : Str} {st : Stmt} {N ps : List Str} {k n : Nat} {rf : List Nat} {ft : DnT} {f : Addr} {fd : FuncData} (F : FunD K x x (defArgs st) (defBody st) (defScope st) [] [] f fd) (S : FnScope N ps (defScope st)) (hn : ps.length = n)
    (h : ∀ (f : Addr) (cdv : Value) (A0 : Around) (outer : List Env) (s : Shared) (H : Hp) (E : XK), Room k (A0.deeper (PyProof.Rows.envOfC x (defScope st) s.heap.objs.size f cdv)) → ∀ A : Act, A.cls = cls →
      DTs (cxOf (L2.CX P w) P w K mg base N x (defScope st) f cdv A0 outer s H E) (fun c d _ H' => E c d H') A (defBody st) ft) : FnOk P w K mg base (L2.CX P w) (k + 1) f fd ps (spD cls n rf (fnD N.length rf ft)) := by
  rw [← hn]
  exact fn_ok F S fun cdv A0 outer s H E hr A hA => h f cdv A0 outer s H E hr A hA
theorem fok_of {P : Program} {w : World} {K : PySem.W.Frag} {mg : Str → Option Value} {base : Heap} {cls : Nat → Option Value} {x : Str} {st : Stmt} {N ps : List Str} {k n : Nat} {rf : List Nat} {ft : DnT} (D : DefAt K mg x st) (S : FnScope N ps (defScope st)) (hn : ps.length = n)
    (hb : ∀ (kV doc pm : Value) (an : Option Addr) (cdv ct : Value) (us : List Value), us.length = ps.length → bindArgs (PySem.W.fnOf x x (defArgs st) (defBody st) (defScope st) .none kV doc pm an cdv ct) ⟨us, []⟩ = pure (ps.zip us))
    (h : ∀ (f : Addr) (cdv : Value) (A0 : Around) (outer : List Env) (s : Shared) (H : Hp) (E : XK), Room k (A0.deeper (PyProof.Rows.envOfC x (defScope st) s.heap.objs.size f cdv)) → ∀ A : Act, A.cls = cls →
      DTs (cxOf (L2.CX P w) P w K mg base N x (defScope st) f cdv A0 outer s H E) (fun c d _ H' => E c d H') A (defBody st) ft) : Fok P w K mg base cls (k + 1) x n rf (fnD N.length rf ft) := by
  obtain ⟨f, fd, F, hm⟩ := D
  exact ⟨f, fd, ps, by rw [← hn]; exact fn_ok F S fun cdv A0 outer s H E hr A hA => h f cdv A0 outer s H E hr A hA, hm, F.kp, F.bindsN hb, hn⟩
/-- a def that is never to be run this deep -/
theorem fok_err {P : Program} {w : World} {K : PySem.W.Frag} {mg : Str → Option Value} {base : Heap} {cls : Nat → Option Value} {x : Str} {st : Stmt} {ps : List Str} {k n : Nat} {rf : List Nat} (D : DefAt K mg x st) (hn : ps.length = n)
    (hb : ∀ (kV doc pm : Value) (an : Option Addr) (cdv ct : Value) (us : List Value), us.length = ps.length → bindArgs (PySem.W.fnOf x x (defArgs st) (defBody st) (defScope st) .none kV doc pm an cdv ct) ⟨us, []⟩ = pure (ps.zip us)) :
    Fok P w K mg base cls k x n rf (fun _ => .err) := by
  obtain ⟨f, fd, F, hm⟩ := D
  exact ⟨f, fd, ps, ⟨fun vs H Q E ⟨O, ds, _, _, _, z⟩ => z.elim, fun A outer s H args us vs Q E _ _ _ _ ⟨O, ds, _, _, _, z⟩ => z.elim⟩, hm, F.kp, F.bindsN hb, hn⟩
end Z

namespace Z
open PySem L2
theorem bt_int : bootBuiltins "int" = some (.type "int") := PyProof.Rows.boot_int
theorem bt_bool : bootBuiltins "bool" = some (.type "bool") := PyProof.Rows.boot_bool
theorem bt_str : bootBuiltins "str" = some (.type "str") := PyProof.Rows.boot_str
theorem bt_list : bootBuiltins "list" = some (.type "list") := PyProof.Rows.boot_list
theorem bt_tuple : bootBuiltins "tuple" = some (.type "tuple") := PyProof.Rows.boot_tuple
theorem bt_dict : bootBuiltins "dict" = some (.type "dict") := PyProof.Rows.boot_dict
theorem bt_len : bootBuiltins "len" = some (.builtin "len") := PySem.boot_len
theorem tkF {P : Program} {w : World} {K : PySem.W.Frag} {mg : Str → Option Value} {base : Heap} {N : List Str} {qual : Str} {scope : Scope} {f : Addr} {cdv : Value} {A0 : Around} {outer : List Env} {s : Shared} {H : Hp} {E : XK} :
    Takes (cxOf (L2.CX P w) P w K mg base N qual scope f cdv A0 outer s H E) (fun c d _ H' => E c d H') := takes_of rfl rfl rfl rfl
theorem tk0 {X : Cx} : Takes X W0 := fun _ _ x => by
  obtain ⟨_, _, _, _, _, _, _, _, _, _, _, _, _, _, _, _, z⟩ := x
  exact z.elim
end Z

namespace Z
open PySem L2

/-! ### the head's hook: what is known holds no list -/
def notL (o : Obj) : Bool := match o.cls with
  | .type c => c != "list"
  | _ => true
def frZ (g : Addr → Option Obj) (as : List Addr) : PySem.W.Frag := (He.frG g as).filter fun q => notL q.2
theorem frZ_look {g : Addr → Option Obj} {as : List Addr} {a : Addr} {o : Obj} (h : (frZ g as).lookup a = some o) : g a = some o ∧ notL o = true := by
  obtain ⟨h1, h2⟩ := List.mem_filter.mp (He.lookup_mem h)
  exact ⟨He.frG_mem h1, h2⟩
def NoLst (K : PySem.W.Frag) : Prop := ∀ a o, K.lookup a = some o → notL o = true
def obsZ (n : Nat) (fa : List He.Fa) (fn : List He.DefD) (g : Addr → Option Obj) : He.AlD := He.obsD fa fn (frZ g (He.asD g n))
def hookZ (n : Nat) (fa : List He.Fa) (fn : List He.DefD) : PySem.W.Hook where
  α := He.AlD
  obs := fun s => obsZ n fa fn s.heap.get?
  val := fun _ => He.valD fn
  says := fun _ h => ∃ K : PySem.W.Frag, K.In h ∧ He.SaysD fa fn K ∧ NoLst K
  of := fun _ s e => ⟨_, fun _ _ e => (frZ_look e).1, e, fun _ _ e => (frZ_look e).2⟩
  keeps := fun _ _ _ ⟨K, hK, c, d⟩ k => ⟨K, PySem.W.Frag.In.keeps hK k, c, d⟩
theorem obsZ_eq {n : Nat} {fa : List He.Fa} {fn : List He.DefD} {g : Addr → Option Obj} {s : Shared} (h : ∀ a, g a = s.heap.get? a) : obsZ n fa fn g = (hookZ n fa fn).obs s := by
  have e : g = s.heap.get? := funext h
  rw [e] <;> rfl

/-! ### a law's promise -/
abbrev noX : XK := fun _ _ _ => False
theorem cx_no {P : Program} {w : World} {outer : List Env} {H : Hp} {s : Shared} {u : Value} {s' : Shared} (h : L2.CX P w outer H s noX u s') : False := by
  obtain ⟨_, _, _, _, _, h⟩ := h
  exact h.2.2.2.2.2.2.2
theorem fn_out {P : Program} {w : World} {K : PySem.W.Frag} {mg : Str → Option Value} {base : Heap} {k : Nat} {f : Addr} {fd : FuncData} {ps : List Str} {sp : Sp} (F : FnOk P w K mg base (L2.CX P w) k f fd ps sp) :
    FnOk P w K mg base CX0 k f fd ps (fun vs H Q _ => sp vs H Q noX) :=
  ⟨fun vs H Q E h => F.len vs H Q noX h, fun A outer s H args us vs Q E hr e0 hb r h => codeAny_mono (F.run A outer s H args us vs Q noX hr e0 hb r h) fun rr s' q => by
    cases rr with
    | error e => exact cx_no q
    | ok fl => cases fl <;> exact q⟩
/-- what is left of a law: its reading tells True -/
theorem law_sp {K : PySem.W.Frag} {cls : Nat → Option Value} {φ : Fd} {H : Hp} {a : Addr} {ns : List Int} (nl : NoLst K) (hs : SqL K H a (ns.map V.int)) (h : φ [.list (ns.map .int)] = .ok (.sh (.bool true)) []) :
    spD cls 1 [] φ [.ref a] H (fun v _ => v = .bl true) noX := by
  have rd : Rd H a (.lst (ns.map V.int)) := by
    rcases hs with r | ⟨o, its, n, lk, hc, _⟩
    · exact r
    · have := nl a o lk
      unfold notL at this
      rw [hc] at this
      cases this
  have rp : RpAll (fun _ => False) H (ns.map .int) (ns.map V.int) := by
    clear h rd hs
    induction ns with
    | nil => rfl
    | cons n ns ih => exact ⟨_, _, rfl, rfl, ih⟩
  refine ⟨fun _ => False, [.list (ns.map .int)], fun _ z => z.elim, ⟨rfl, fun i d _ hd => ?_, (fun i d z => nomatch z), (fun i j p z => nomatch z)⟩, rfl, ?_⟩
  · cases i with
    | zero =>
      cases hd
      exact ⟨_, rfl, a, _, rfl, (fun z => z), rd, rp⟩
    | succ i => cases hd
  · rw [h]
    intro v O' H' _ _ _ _ _ vo _
    exact vo
end Z

namespace Z
open PySem L2
def b__law_next : DnT :=
  (seqT (iffT (andB (binB eqB (binD ixD (borC 0) (conC (.int 2))) (conC (.int 0))) (binB ltB (binD ixD (borC 0) (conC (.int 1))) (opsD lenD (consC (binD ixD (borC 0) (conC (.int 0))) nilC))))
  (seqT (asgT 2 (shF (binD ixD (binD ixD (borC 0) (conC (.int 0))) (binD ixD (borC 0) (conC (.int 1))))))
  (seqT (augT 0 (conC (.int 1)) (conC (.int 1)) (fun i j => i + j))
  (iffT (binB geB (borC 2) (binD powD (conC (.int 10)) (conC (.int 18))))
  (subT 0 (varC 2) (conC (.int 2)))
  (subT 0 (binD modD (opsD intD (consC (fz (binF addS (fz (binF addS (binD mulD (binD ixD (borC 0) (conC (.int 3))) (conC (.int 48271))) (binD modD (opsD intD (consC (borC 2) nilC)) (conC (.int 2147483647))))) (conC (.int 7)))) nilC)) (conC (.int 2147483647))) (conC (.int 3))))))
  skipT)
  (seqT (iffT (binB gtB (binD ixD (borC 0) (conC (.int 2))) (conC (.int 0)))
  (seqT (asgT 3 (shF (binD modD (opsD intD (consC (binD ixD (borC 0) (conC (.int 2))) nilC)) (borC 1))))
  (seqT (subT 0 (binD fdvD (binD ixD (borC 0) (conC (.int 2))) (borC 1)) (conC (.int 2)))
  (retV 3)))
  skipT)
  (seqT (subT 0 (binD modD (opsD intD (consC (fz (binF addS (binD mulD (binD ixD (borC 0) (conC (.int 3))) (conC (.int 69621))) (conC (.int 12345)))) nilC)) (conC (.int 2147483647))) (conC (.int 3)))
  (retT (shF (binD modD (opsD intD (consC (binD fdvD (binD ixD (borC 0) (conC (.int 3))) (conC (.int 7))) nilC)) (borC 1)))))))
def d__law_next : Fd := fnD 4 [0] b__law_next
def b__law_word : DnT :=
  (retT (shF (opsD tupX (consC (fz (lcC [2] (rng1I (fz (callRC 0 d__law_next (consC (fz (binF addS (borC 1) (conC (.int 1)))) nilC)))) (nameG 2) yesB (tupC (consC (binD ixD (fz (lstC (consC (conC (.str "x")) (consC (conC (.str "y")) nilC)))) (fz (callRC 0 d__law_next (consC (conC (.int 2)) nilC)))) (consC (binD ixD (fz (lstC (consC (conC (.int 1)) (consC (unD negD (conC (.int 1))) nilC)))) (fz (callRC 0 d__law_next (consC (conC (.int 2)) nilC)))) nilC))))) nilC))))
def d__law_word : Fd := fnD 3 [0] b__law_word
def b_check_word : DnT :=
  (iffT (binB gtB (opsD lenD (consC (borC 0) nilC)) (conC (.int 60)))
  errT
  skipT)
def d_check_word : Fd := fnD 1 [] b_check_word
def b_shortened : DnT :=
  (seqT (asgT 1 (lstC nilC))
  (seqT (forT (seqI (varC 0)) (nameG 2)
  (iffT (andB (truB (borC 1)) (binB eqB (binD ixD (borC 1) (unD negD (conC (.int 1)))) (tupC (consC (binD ixD (borC 2) (conC (.int 0))) (consC (unD negD (binD ixD (borC 2) (conC (.int 1)))) nilC)))))
  (dropT (mutC 1 nilC popO))
  (dropT (mutC 1 (consC (varC 2) nilC) appO))))
  (retT (shF (opsD tupX (consC (borC 1) nilC))))))
def d_shortened : Fd := fnD 3 [] b_shortened
def b_least : DnT :=
  (seqT (dropT (fz (callC d_check_word (consC (varC 0) nilC))))
  (seqT (asgT 1 (callC d_shortened (consC (varC 0) nilC)))
  (seqT (asgT 2 (shF (tupC nilC)))
  (seqT (asgT 3 (shF (varC 1)))
  (seqT (whileT 4096 (andB (binB gtB (opsD lenD (consC (borC 3) nilC)) (conC (.int 1))) (binB eqB (binD ixD (borC 3) (conC (.int 0))) (tupC (consC (binD ixD (binD ixD (borC 3) (unD negD (conC (.int 1)))) (conC (.int 0))) (consC (unD negD (binD ixD (binD ixD (borC 3) (unD negD (conC (.int 1)))) (conC (.int 1)))) nilC)))))
  (parT 2 3 (consC (fz (binF addS (borC 2) (fz (slcC (borC 3) noO (atO (conC (.int 1))))))) (consC (fz (slcC (borC 3) (atO (conC (.int 1))) (atO (unD negD (conC (.int 1)))))) nilC))))
  (retT (shF (tupC (consC (conC (.str "word")) (consC (varC 1) (consC (varC 3) (consC (varC 2) nilC))))))))))))
def d_least : Fd := fnD 4 [] b_least
def b__law_short : DnT :=
  (seqT (asgT 1 (lstC nilC))
  (seqT (forT (seqI (varC 0)) (tupG 2 (consG (nameG 2) (consG (nameG 3) nilG)))
  (iffT (andB (binB neB (borC 1) (fz (lstC nilC))) (binB eqB (binD ixD (borC 1) (unD negD (conC (.int 1)))) (tupC (consC (varC 2) (consC (binD subD (conC (.int 0)) (borC 3)) nilC)))))
  (dropT (mutC 1 nilC popO))
  (dropT (mutC 1 (consC (tupC (consC (varC 2) (consC (varC 3) nilC))) nilC) appO))))
  (retT (shF (opsD tupX (consC (borC 1) nilC))))))
def d__law_short : Fd := fnD 4 [] b__law_short
def b__law_is : DnT :=
  (retT (shF (andV (isiC ["tuple"] (borC 0)) (andV (binD (opBD eqB) (opsD lenD (consC (borC 0) nilC)) (borC 2)) (andV (isiC ["str"] (binD ixD (borC 0) (conC (.int 0)))) (binD (opBD eqB) (binD ixD (borC 0) (conC (.int 0))) (borC 1)))))))
def d__law_is : Fd := fnD 3 [] b__law_is
def b__law_back : DnT :=
  (retT (shF (opsD tupX (consC (fz (lcC [1, 2] (seqI (fz (unF revF (borC 0)))) (tupG 2 (consG (nameG 1) (consG (nameG 2) nilG))) yesB (tupC (consC (varC 1) (consC (binD subD (conC (.int 0)) (borC 2)) nilC))))) nilC))))
def d__law_back : Fd := fnD 3 [] b__law_back
def b__law_are_pairs_in : DnT :=
  (retT (shF (andV (isiC ["tuple"] (borC 0)) (binD (opBD eqB) (fz (lcC [2] (seqI (varC 0)) (nameG 2) (orB (notB (truB (isiC ["tuple"] (borC 2)))) (binB neB (opsD lenD (consC (borC 2) nilC)) (borC 1))) (varC 2))) (fz (lstC nilC))))))
def d__law_are_pairs_in : Fd := fnD 3 [] b__law_are_pairs_in
def b__law_is_whole : DnT :=
  (retT (shF (andV (isiC ["int"] (borC 0)) (notV (isiC ["bool"] (borC 0))))))
def d__law_is_whole : Fd := fnD 1 [] b__law_is_whole
def b__law_is_word : DnT :=
  (seqT (iffT (notB (truB (fz (callC d__law_are_pairs_in (consC (varC 0) (consC (conC (.int 2)) nilC))))))
  (retT (shF (conC (.bool false))))
  skipT)
  (retT (shF (binD (opBD eqB) (fz (lcC [1] (seqI (varC 0)) (nameG 1) (notB (andB (truB (isiC ["str"] (binD ixD (borC 1) (conC (.int 0))))) (andB (truB (fz (callC d__law_is_whole (consC (binD ixD (borC 1) (conC (.int 1))) nilC)))) (binB inB (binD ixD (borC 1) (conC (.int 1))) (fz (lstC (consC (conC (.int 1)) (consC (unD negD (conC (.int 1))) nilC)))))))) (varC 1))) (fz (lstC nilC))))))
def d__law_is_word : Fd := fnD 2 [] b__law_is_word
def b__law_accepts : DnT :=
  (seqT (iffT (orB (notB (truB (fz (callC d__law_is (consC (varC 1) (consC (conC (.str "word")) (consC (conC (.int 4)) nilC))))))) (binB neB (fz (lcC [2] (seqI (fz (slcC (borC 1) (atO (conC (.int 1))) noO))) (nameG 2) (notB (truB (fz (callC d__law_is_word (consC (varC 2) nilC))))) (varC 2))) (fz (lstC nilC))))
  (retT (shF (conC (.bool false))))
  skipT)
  (seqT (iffT (orB (binB neB (binD ixD (borC 1) (conC (.int 1))) (fz (callC d__law_short (consC (varC 0) nilC)))) (binB neB (fz (callC d__law_short (consC (binD ixD (borC 1) (conC (.int 2))) nilC))) (binD ixD (borC 1) (conC (.int 2)))))
  (retT (shF (conC (.bool false))))
  skipT)
  (seqT (iffT (andB (binB gtB (opsD lenD (consC (binD ixD (borC 1) (conC (.int 2))) nilC)) (conC (.int 1))) (binB neB (fz (callC d__law_short (consC (fz (binF addS (binD ixD (borC 1) (conC (.int 2))) (binD ixD (borC 1) (conC (.int 2))))) nilC))) (fz (binF addS (binD ixD (borC 1) (conC (.int 2))) (binD ixD (borC 1) (conC (.int 2)))))))
  (retT (shF (conC (.bool false))))
  skipT)
  (retT (shF (binD (opBD eqB) (fz (callC d__law_short (consC (fz (binF addS (fz (binF addS (binD ixD (borC 1) (conC (.int 3))) (binD ixD (borC 1) (conC (.int 2))))) (fz (callC d__law_back (consC (binD ixD (borC 1) (conC (.int 3))) nilC))))) nilC))) (binD ixD (borC 1) (conC (.int 1)))))))))
def d__law_accepts : Fd := fnD 3 [] b__law_accepts
def b_is_told : DnT :=
  (seqT (iffT (orB (notB (truB (isiC ["tuple"] (borC 0)))) (binB neB (opsD lenD (consC (borC 0) nilC)) (borC 2)))
  (retT (shF (conC (.bool false))))
  skipT)
  (retT (shF (andV (isiC ["str"] (binD ixD (borC 0) (conC (.int 0)))) (binD (opBD eqB) (binD ixD (borC 0) (conC (.int 0))) (borC 1))))))
def d_is_told : Fd := fnD 3 [] b_is_told
def b_is_whole : DnT :=
  (retT (shF (andV (isiC ["int"] (borC 0)) (notV (isiC ["bool"] (borC 0))))))
def d_is_whole : Fd := fnD 1 [] b_is_whole
def b_is_word : DnT :=
  (seqT (iffT (orB (notB (truB (isiC ["tuple"] (borC 0)))) (binB inB (conC (.bool false)) (fz (lcC [3] (seqI (varC 0)) (nameG 3) yesB (andV (isiC ["tuple"] (borC 3)) (binD (opBD eqB) (opsD lenD (consC (borC 3) nilC)) (conC (.int 2))))))))
  (retT (shF (conC (.bool false))))
  skipT)
  (retT (shF (binD (opBD niB) (conC (.bool false)) (fz (lcC [1, 2] (seqI (varC 0)) (tupG 2 (consG (nameG 1) (consG (nameG 2) nilG))) yesB (andV (isiC ["str"] (borC 1)) (andV (fz (callC d_is_whole (consC (varC 2) nilC))) (binD (opBD inB) (borC 2) (tupC (consC (conC (.int 1)) (consC (unD negD (conC (.int 1))) nilC))))))))))))
def d_is_word : Fd := fnD 4 [] b_is_word
def b_read_back : DnT :=
  (retT (shF (opsD tupX (consC (fz (lcC [1, 2] (seqI (fz (unF revF (borC 0)))) (tupG 2 (consG (nameG 1) (consG (nameG 2) nilG))) yesB (tupC (consC (varC 1) (consC (unD negD (borC 2)) nilC))))) nilC))))
def d_read_back : Fd := fnD 3 [] b_read_back
def b_judge_least : DnT :=
  (seqT (dropT (fz (callC d_check_word (consC (varC 0) nilC))))
  (seqT (iffT (orB (notB (truB (fz (callC d_is_told (consC (varC 1) (consC (conC (.str "word")) (consC (conC (.int 4)) nilC))))))) (binB inB (conC (.bool false)) (fz (lcC [2] (seqI (fz (slcC (borC 1) (atO (conC (.int 1))) noO))) (nameG 2) yesB (fz (callC d_is_word (consC (varC 2) nilC)))))))
  (retT (shF (conC (.bool false))))
  skipT)
  (seqT (iffT (orB (binB neB (binD ixD (borC 1) (conC (.int 1))) (fz (callC d_shortened (consC (varC 0) nilC)))) (binB neB (fz (callC d_shortened (consC (binD ixD (borC 1) (conC (.int 2))) nilC))) (binD ixD (borC 1) (conC (.int 2)))))
  (retT (shF (conC (.bool false))))
  skipT)
  (seqT (iffT (andB (binB gtB (opsD lenD (consC (binD ixD (borC 1) (conC (.int 2))) nilC)) (conC (.int 1))) (binB eqB (binD ixD (binD ixD (borC 1) (conC (.int 2))) (conC (.int 0))) (tupC (consC (binD ixD (binD ixD (binD ixD (borC 1) (conC (.int 2))) (unD negD (conC (.int 1)))) (conC (.int 0))) (consC (unD negD (binD ixD (binD ixD (binD ixD (borC 1) (conC (.int 2))) (unD negD (conC (.int 1)))) (conC (.int 1)))) nilC)))))
  (retT (shF (conC (.bool false))))
  skipT)
  (retT (shF (binD (opBD eqB) (fz (callC d_shortened (consC (fz (binF addS (fz (binF addS (binD ixD (borC 1) (conC (.int 3))) (binD ixD (borC 1) (conC (.int 2))))) (fz (callC d_read_back (consC (binD ixD (borC 1) (conC (.int 3))) nilC))))) nilC))) (binD ixD (borC 1) (conC (.int 1))))))))))
def d_judge_least : Fd := fnD 3 [] b_judge_least
def b__law_ints (r : Fd) : DnT :=
  (seqT (iffT (orB (truB (isiC ["bool"] (borC 0))) (notB (truB (isiC ["int", "tuple"] (borC 0)))))
  (retT (lstC nilC))
  skipT)
  (seqT (iffT (truB (isiC ["int"] (borC 0)))
  (retT (lstC (consC (varC 0) nilC)))
  skipT)
  (seqT (asgT 1 (lstC nilC))
  (seqT (forT (seqI (varC 0)) (nameG 2)
  (asgT 1 (binF addS (varC 1) (fz (lcC [3] (seqI (fz (callC r (consC (varC 2) nilC)))) (nameG 3) (binB niB (borC 3) (borC 1)) (varC 3))))))
  (retV 1)))))
def d__law_ints : Nat → Fd
  | 0 => fun _ => .err
  | n + 1 => fnD 4 [] (b__law_ints (d__law_ints n))
def b__law_exchanged (r : Fd) : DnT :=
  (seqT (iffT (orB (truB (isiC ["bool"] (borC 0))) (notB (truB (isiC ["int", "tuple"] (borC 0)))))
  (retV 0)
  skipT)
  (seqT (iffT (truB (isiC ["int"] (borC 0)))
  (retT (shF (ifC (binB eqB (borC 0) (borC 1)) (varC 2) (ifC (binB eqB (borC 0) (borC 2)) (varC 1) (varC 0)))))
  skipT)
  (retT (shF (opsD tupX (consC (fz (lcC [3] (seqI (varC 0)) (nameG 3) yesB (fz (callC r (consC (varC 3) (consC (varC 1) (consC (varC 2) nilC))))))) nilC))))))
def d__law_exchanged : Nat → Fd
  | 0 => fun _ => .err
  | n + 1 => fnD 4 [] (b__law_exchanged (d__law_exchanged n))
def b__law_cut (r : Fd) : DnT :=
  (seqT (iffT (orB (notB (truB (isiC ["tuple"] (borC 1)))) (binB eqB (borC 1) (tupC nilC)))
  (retV 1)
  skipT)
  (seqT (iffT (binB neB (fz (lcC [5] (seqI (varC 1)) (nameG 5) (notB (truB (isiC ["str"] (borC 5)))) (varC 5))) (fz (lstC nilC)))
  (seqT (asgT 2 (callRC 0 d__law_next (consC (opsD lenD (consC (borC 1) nilC)) nilC)))
  (retT (binF addS (fz (binF addS (fz (slcC (borC 1) noO (atO (borC 2)))) (tupC (consC (fz (callRC 0 r (consC (binD ixD (borC 1) (borC 2)) nilC))) nilC)))) (fz (slcC (borC 1) (atO (fz (binF addS (borC 2) (conC (.int 1))))) noO)))))
  skipT)
  (seqT (asgT 2 (callRC 0 d__law_next (consC (opsD lenD (consC (borC 1) nilC)) nilC)))
  (seqT (asgT 3 (callRC 0 d__law_next (consC (fz (binF addS (opsD lenD (consC (binD ixD (borC 1) (borC 2)) nilC)) (conC (.int 1)))) nilC)))
  (seqT (asgT 4 (lstC (consC (fz (binF addS (fz (binF addS (fz (slcC (borC 1) noO (atO (borC 2)))) (tupC (consC (fz (slcC (binD ixD (borC 1) (borC 2)) noO (atO (borC 3)))) (consC (fz (slcC (binD ixD (borC 1) (borC 2)) (atO (borC 3)) noO)) nilC))))) (fz (slcC (borC 1) (atO (fz (binF addS (borC 2) (conC (.int 1))))) noO)))) (consC (fz (binF addS (fz (binF addS (fz (slcC (borC 1) noO (atO (borC 2)))) (tupC (consC (joinC (conC (.str "")) (fz (slcC (borC 1) (atO (borC 2)) (atO (fz (binF addS (borC 2) (conC (.int 2)))))))) nilC)))) (fz (slcC (borC 1) (atO (fz (binF addS (borC 2) (conC (.int 2))))) noO)))) nilC))))
  (seqT (asgT 4 (binF addS (borC 4) (fz (lstC (consC (tupC (consC (joinC (conC (.str "")) (borC 1)) nilC)) (consC (opsD tupX (consC (joinC (conC (.str "")) (borC 1)) nilC)) (consC (fz (binF addS (fz (binF addS (fz (slcC (borC 1) noO (atO (borC 2)))) (tupC (consC (conC (.str "")) nilC)))) (fz (slcC (borC 1) (atO (borC 2)) noO)))) (consC (fz (binF addS (fz (binF addS (fz (slcC (borC 1) noO (atO (borC 2)))) (fz (unF revF (fz (slcC (borC 1) (atO (borC 2)) (atO (fz (binF addS (borC 2) (conC (.int 2))))))))))) (fz (slcC (borC 1) (atO (fz (binF addS (borC 2) (conC (.int 2))))) noO)))) nilC))))))))
  (retT (shF (binD ixD (varC 4) (fz (callRC 0 d__law_next (consC (opsD lenD (consC (borC 4) nilC)) nilC))))))))))))
def d__law_cut : Nat → Fd
  | 0 => fun _ => .err
  | n + 1 => fnD 6 [0] (b__law_cut (d__law_cut n))
def b__law_turned_about : DnT :=
  (seqT (asgT 2 (callC (d__law_ints 40) (consC (varC 1) nilC)))
  (seqT (asgT 3 (callRC 0 d__law_next (consC (conC (.int 5)) nilC)))
  (seqT (iffT (andB (binB ltB (borC 3) (conC (.int 3))) (binB neB (borC 2) (fz (lstC nilC))))
  (seqT (asgT 4 (shF (binD ixD (varC 2) (fz (callRC 0 d__law_next (consC (opsD lenD (consC (borC 2) nilC)) nilC))))))
  (seqT (asgT 5 (ifC (binB eqB (borC 3) (conC (.int 0))) (binF addS (borC 4) (conC (.int 1))) (shF (binD ixD (varC 2) (fz (callRC 0 d__law_next (consC (opsD lenD (consC (borC 2) nilC)) nilC)))))))
  (retT (callC (d__law_exchanged 40) (consC (varC 1) (consC (varC 4) (consC (varC 5) nilC)))))))
  skipT)
  (seqT (iffT (binB eqB (borC 3) (conC (.int 3)))
  (retT (binF addS (fz (slcC (borC 1) noO (atO (conC (.int 1))))) (fz (ifC (binB gtB (opsD lenD (consC (borC 1) nilC)) (conC (.int 2))) (callRC 0 (d__law_cut 40) (consC (fz (slcC (borC 1) (atO (conC (.int 1))) noO)) nilC)) (shF (opsD tupX (consC (fz (lcC [8] (seqI (fz (slcC (borC 1) (atO (conC (.int 1))) noO))) (nameG 8) yesB (fz (callRC 0 (d__law_cut 40) (consC (varC 8) nilC))))) nilC)))))))
  skipT)
  (seqT (parT 6 7 (consC (fz (callRC 0 d__law_next (consC (opsD lenD (consC (borC 1) nilC)) nilC))) (consC (fz (callRC 0 d__law_next (consC (opsD lenD (consC (borC 1) nilC)) nilC))) nilC)))
  (seqT (iffT (andB (binB eqB (opsD lenD (consC (borC 1) nilC)) (conC (.int 2))) (andB (truB (isiC ["tuple"] (binD ixD (borC 1) (conC (.int 1))))) (binB neB (binD ixD (borC 1) (conC (.int 1))) (tupC nilC))))
  (seqT (parT 6 7 (consC (fz (callRC 0 d__law_next (consC (opsD lenD (consC (binD ixD (borC 1) (conC (.int 1))) nilC)) nilC))) (consC (fz (callRC 0 d__law_next (consC (opsD lenD (consC (binD ixD (borC 1) (conC (.int 1))) nilC)) nilC))) nilC)))
  (retT (shF (tupC (consC (binD ixD (borC 1) (conC (.int 0))) (consC (fz (binF addS (fz (binF addS (fz (slcC (binD ixD (borC 1) (conC (.int 1))) noO (atO (borC 6)))) (fz (slcC (binD ixD (borC 1) (conC (.int 1))) (atO (borC 7)) (atO (fz (binF addS (borC 7) (conC (.int 1))))))))) (fz (slcC (binD ixD (borC 1) (conC (.int 1))) (atO (fz (binF addS (borC 6) (conC (.int 1))))) noO)))) nilC))))))
  skipT)
  (retT (ifC (andB (binB gtB (borC 6) (conC (.int 0))) (binB gtB (borC 7) (conC (.int 0)))) (binF addS (fz (binF addS (fz (slcC (borC 1) noO (atO (borC 6)))) (fz (slcC (borC 1) (atO (borC 7)) (atO (fz (binF addS (borC 7) (conC (.int 1))))))))) (fz (slcC (borC 1) (atO (fz (binF addS (borC 6) (conC (.int 1))))) noO))) (shF (varC 1))))))))))
def d__law_turned_about : Fd := fnD 9 [0] b__law_turned_about
def b__law_changed (r : Fd) : DnT :=
  (seqT (iffT (truB (isiC ["bool"] (borC 1)))
  (retT (shF (binD ixD (fz (lstC (consC (notV (borC 1)) (consC (opsD intD (consC (borC 1) nilC)) nilC)))) (fz (callRC 0 d__law_next (consC (conC (.int 2)) nilC))))))
  skipT)
  (seqT (iffT (orB (binB isNoneB (borC 1) (conC .none)) (truB (isiC ["int"] (borC 1))))
  (retT (shF (binD ixD (fz (lstC (consC (fz (binF addS (orV (varC 1) (conC (.int 0))) (conC (.int 1)))) (consC (binD subD (orV (varC 1) (conC (.int 0))) (conC (.int 1))) (consC (conC (.int 0)) (consC (conC .none) (consC (binD (opBD eqB) (borC 1) (conC (.int 1))) (consC (opsD strD (consC (borC 1) nilC)) (consC (binD mulD (conC (.int 2)) (orV (varC 1) (conC (.int 1)))) nilC))))))))) (fz (callRC 0 d__law_next (consC (conC (.int 7)) nilC))))))
  skipT)
  (seqT (iffT (truB (isiC ["str"] (borC 1)))
  (seqT (asgT 5 (lstC (consC (fz (slcC (borC 1) (atO (conC (.int 1))) noO)) (consC (fz (binF addS (borC 1) (conC (.str "a")))) (consC (fz (unF revF (borC 1))) (consC (fz (binF addS (conC (.str "b")) (borC 1))) (consC (conC (.str "")) (consC (fz (slcC (borC 1) noO (atO (unD negD (conC (.int 1)))))) (consC (conC (.str "left")) (consC (conC (.int 3)) (consC (conC (.str "in")) nilC)))))))))))
  (retT (shF (binD ixD (varC 5) (fz (callRC 0 d__law_next (consC (opsD lenD (consC (borC 5) nilC)) nilC)))))))
  skipT)
  (seqT (iffT (andB (truB (isiC ["tuple"] (borC 1))) (andB (binB neB (borC 1) (tupC nilC)) (binB gtB (fz (callRC 0 d__law_next (consC (conC (.int 4)) nilC))) (conC (.int 0)))))
  (seqT (asgT 2 (callRC 0 d__law_next (consC (opsD lenD (consC (borC 1) nilC)) nilC)))
  (retT (binF addS (fz (binF addS (fz (slcC (borC 1) noO (atO (borC 2)))) (tupC (consC (fz (callRC 0 r (consC (binD ixD (borC 1) (borC 2)) nilC))) nilC)))) (fz (slcC (borC 1) (atO (fz (binF addS (borC 2) (conC (.int 1))))) noO)))))
  skipT)
  (seqT (iffT (notB (truB (isiC ["tuple"] (borC 1))))
  (retT (shF (tupC nilC)))
  skipT)
  (seqT (asgT 2 (callRC 0 d__law_next (consC (fz (binF addS (opsD lenD (consC (borC 1) nilC)) (conC (.int 1)))) nilC)))
  (seqT (asgT 3 (callRC 0 d__law_next (consC (fz (binF addS (opsD lenD (consC (borC 1) nilC)) (conC (.int 1)))) nilC)))
  (seqT (asgT 4 (lstC (consC (fz (binF addS (fz (slcC (borC 1) noO (atO (borC 2)))) (fz (slcC (borC 1) (atO (fz (binF addS (borC 2) (conC (.int 1))))) noO)))) (consC (fz (binF addS (borC 1) (fz (slcC (borC 1) noO (atO (conC (.int 1))))))) (consC (fz (unF revF (borC 1))) (consC (fz (binF addS (fz (slcC (borC 1) (atO (borC 2)) noO)) (fz (slcC (borC 1) noO (atO (borC 2)))))) (consC (fz (opsF listF (consC (borC 1) nilC))) (consC (fz (slcC (borC 1) noO (atO (borC 2)))) (consC (tupC nilC) (consC (fz (binF addS (borC 1) (tupC (consC (conC (.int 0)) nilC)))) nilC))))))))))
  (seqT (iffT (chnB ltB ltB (borC 2) (borC 3) (opsD lenD (consC (borC 1) nilC)))
  (asgT 4 (binF addS (varC 4) (fz (lcC [6] (rng1I (conC (.int 3))) (nameG 6) yesB (fz (binF addS (fz (binF addS (fz (binF addS (fz (binF addS (fz (slcC (borC 1) noO (atO (borC 2)))) (fz (slcC (borC 1) (atO (borC 3)) (atO (fz (binF addS (borC 3) (conC (.int 1))))))))) (fz (slcC (borC 1) (atO (fz (binF addS (borC 2) (conC (.int 1))))) (atO (borC 3)))))) (fz (slcC (borC 1) (atO (borC 2)) (atO (fz (binF addS (borC 2) (conC (.int 1))))))))) (fz (slcC (borC 1) (atO (fz (binF addS (borC 3) (conC (.int 1))))) noO))))))))
  skipT)
  (retT (shF (binD ixD (varC 4) (fz (callRC 0 d__law_next (consC (opsD lenD (consC (borC 4) nilC)) nilC)))))))))))))))
def d__law_changed : Nat → Fd
  | 0 => fun _ => .err
  | n + 1 => fnD 7 [0] (b__law_changed (d__law_changed n))
def b__law_odd : DnT :=
  (seqT (asgT 2 (lstC (consC (conC .none) (consC (conC (.str "")) (consC (conC (.str "yes")) (consC (fz dctC) (consC (tupC nilC) (consC (fz (slcC (borC 1) noO (atO (conC (.int 1))))) (consC (fz (opsF listF (consC (borC 1) nilC))) (consC (fz (binF addS (borC 1) (tupC (consC (conC (.int 0)) nilC)))) (consC (fz (binF addS (tupC (consC (fz (lstC (consC (binD ixD (borC 1) (conC (.int 0))) nilC))) nilC)) (fz (slcC (borC 1) (atO (conC (.int 1))) noO)))) (consC (fz (binF addS (tupC (consC (conC (.str "none such")) nilC)) (fz (slcC (borC 1) (atO (conC (.int 1))) noO)))) (consC (conC (.int 7)) nilC)))))))))))))
  (seqT (asgT 3 (callRC 0 d__law_next (consC (conC (.int 9)) nilC)))
  (seqT (iffT (binB gtB (borC 3) (conC (.int 4)))
  (retT (callRC 0 d__law_turned_about (consC (varC 1) nilC)))
  skipT)
  (retT (ifC (binB eqB (borC 3) (conC (.int 0))) (shF (binD ixD (varC 2) (fz (callRC 0 d__law_next (consC (opsD lenD (consC (borC 2) nilC)) nilC))))) (callRC 0 (d__law_changed 40) (consC (varC 1) nilC)))))))
def d__law_odd : Fd := fnD 4 [0] b__law_odd
def b__law_same (r : Fd) : DnT :=
  (seqT (iffT (binB isNoneB (borC 1) (conC .none))
  (retT (shF (binD (opBD isNoneB) (borC 0) (conC .none))))
  skipT)
  (seqT (iffT (truB (isiC ["bool"] (borC 1)))
  (retT (shF (andV (isiC ["bool"] (borC 0)) (binD (opBD eqB) (borC 0) (borC 1)))))
  skipT)
  (seqT (iffT (truB (isiC ["int"] (borC 1)))
  (retT (shF (andV (isiC ["int"] (borC 0)) (andV (notV (isiC ["bool"] (borC 0))) (binD (opBD eqB) (borC 0) (borC 1))))))
  skipT)
  (seqT (iffT (truB (isiC ["str"] (borC 1)))
  (retT (shF (andV (isiC ["str"] (borC 0)) (binD (opBD eqB) (borC 0) (borC 1)))))
  skipT)
  (seqT (iffT (andB (truB (isiC ["tuple"] (borC 1))) (notB (truB (isiC ["tuple"] (borC 0)))))
  (retT (shF (conC (.bool false))))
  skipT)
  (seqT (iffT (andB (truB (isiC ["list"] (borC 1))) (notB (truB (isiC ["list"] (borC 0)))))
  (retT (shF (conC (.bool false))))
  skipT)
  (seqT (iffT (binB neB (opsD lenD (consC (borC 0) nilC)) (opsD lenD (consC (borC 1) nilC)))
  (retT (shF (conC (.bool false))))
  skipT)
  (seqT (forT (rng1I (opsD lenD (consC (borC 1) nilC))) (nameG 2)
  (iffT (notB (truB (fz (callC r (consC (binD ixD (borC 0) (borC 2)) (consC (binD ixD (borC 1) (borC 2)) nilC))))))
  (retT (shF (conC (.bool false))))
  skipT))
  (retT (shF (conC (.bool true))))))))))))
def d__law_same : Nat → Fd
  | 0 => fun _ => .err
  | n + 1 => fnD 3 [] (b__law_same (d__law_same n))
def b_law : DnT :=
  (seqT (asgT 1 (lstC (consC (fz (opsF listF (consC (borC 0) nilC))) (consC (conC (.int 0)) (consC (conC (.int 0)) (consC (conC (.int 1)) nilC))))))
  (seqT (asgT 2 (lstC nilC))
  (seqT (forT (rng1I (conC (.int 3))) (nameG 3)
  (seqT (asgT 4 (callRC 1 d__law_word (consC (conC (.int 7)) nilC)))
  (seqT (asgT 5 (callC d_least (consC (varC 4) nilC)))
  (seqT (iffT (orB (notB (truB (fz (callC d__law_accepts (consC (varC 4) (consC (varC 5) nilC)))))) (binB noBB (fz (callC d_judge_least (consC (varC 4) (consC (varC 5) nilC)))) (conC (.bool true))))
  (retT (shF (conC (.bool false))))
  skipT)
  (seqT (asgT 2 (binF addS (fz (slcC (borC 2) (atO (unD negD (conC (.int 3)))) noO)) (fz (lstC (consC (varC 5) nilC)))))
  (forT (rng1I (fz (binF addS (conC (.int 8)) (opsD lenD (consC (borC 2) nilC))))) (nameG 6)
  (seqT (asgT 7 (ifC (binB ltB (borC 6) (conC (.int 8))) (callRC 1 d__law_odd (consC (varC 5) nilC)) (shF (binD ixD (borC 2) (binD subD (borC 6) (conC (.int 8)))))))
  (iffT (notB (truB (fz (callC (d__law_same 40) (consC (fz (callC d_judge_least (consC (varC 4) (consC (varC 7) nilC)))) (consC (fz (callC d__law_accepts (consC (varC 4) (consC (varC 7) nilC)))) nilC))))))
  (retT (shF (conC (.bool false))))
  skipT))))))))
  (retT (shF (conC (.bool true)))))))
def d_law : Fd := fnD 8 [] b_law
end Z

namespace Z
open PySem L2

/-! ### readings, run head first -/
def kopB (o : Option Bool) (g : Gam) (k : Bool → Gam → R) : R := match o with
  | some s => k s g
  | none => .err
def kopO (o : Option Int) (g : Gam) (k : Int → Gam → R) : R := match o with
  | some s => k s g
  | none => .err
def kopL (o : Option (List D)) (g : Gam) (k : List D → Gam → R) : R := match o with
  | some s => k s g
  | none => .err
/-- a call's answer -/
def okR (r : Rs) (g : Gam) (k : KS) : R := match r with
  | .ok s [] => k s g
  | .exc c => .exc c g
  | _ => .err
def okR1 (r : Rs) (k : Sl → D → R) : R := match r with
  | .ok s [d] => k s d
  | _ => .err
def mutK (o : Option (D × List D)) (k : D → List D → R) : R := match o with
  | some (d, ds) => k d ds
  | none => .err
def bodyR (fg : DnG) (s1 : DnT) (d : D) (g : Gam) : R := fg d g fun g' => s1 g' .nx
def bodyW (s1 : DnT) (g : Gam) : R := s1 g .nx
def intO : D → Option Int
  | .int i => some i
  | _ => none
section
variable {α : Type} {g : Gam} {i j n : Nat} {d e : D} {ds es : List D} {f fa fb fd : DnD} {ff : DnS} {fs : DnL} {ft t1 t2 : DnB} {s1 s2 : DnT} {fl fh : DnO} {fg : DnG} {fgs : DnGs} {k : KD} {kS : KS} {kB : Bool → Gam → R} {kL : List D → Gam → R} {kT : Gam → R} {kO : Option Int → Gam → R}
@[simp ↓] theorem e_conC  : conC d g k = k d g := rfl
@[simp ↓] theorem e_fz  : fz ff g k = ff g (kfz k) := rfl
@[simp ↓] theorem e_kfz_sh  : kfz k (.sh d) g = k d g := rfl
@[simp ↓] theorem e_kfz_ow  : kfz k (.ow d) g = k d g := rfl
@[simp ↓] theorem e_shF  : shF f g kS = f g fun d g' => kS (.sh d) g' := rfl
@[simp ↓] theorem e_binF {op : D → D → Option Sl} : binF op fa fb g kS = fa g fun x g1 => fb g1 fun y g2 => kop (op x y) g2 kS := rfl
@[simp ↓] theorem e_binD {op : D → D → Option D} : binD op fa fb g k = fa g fun x g1 => fb g1 fun y g2 => kopD (op x y) g2 k := rfl
@[simp ↓] theorem e_kop {s : Sl} : kop (some s) g kS = kS s g := rfl
@[simp ↓] theorem e_kopD  : kopD (some d) g k = k d g := rfl
@[simp ↓] theorem e_kopB {b : Bool} : kopB (some b) g kB = kB b g := rfl
@[simp ↓] theorem e_binB {op : D → D → Option Bool} : binB op fa fb g kB = fa g fun x g1 => fb g1 fun y g2 => kopB (op x y) g2 kB := rfl
@[simp ↓] theorem e_unD {op : D → Option D} : unD op fa g k = fa g fun x g1 => kopD (op x) g1 k := rfl
@[simp ↓] theorem e_unF {op : D → Option Sl} : unF op fa g kS = fa g fun x g1 => kop (op x) g1 kS := rfl
@[simp ↓] theorem e_truB  : truB fa g kB = fa g fun x g1 => kopB (truD x) g1 kB := rfl
@[simp ↓] theorem e_notB  : notB ft g kB = ft g fun b g' => kB (!b) g' := rfl
@[simp ↓] theorem e_andB  : andB t1 t2 g kB = t1 g fun b g1 => if b = true then t2 g1 kB else kB false g1 := rfl
@[simp ↓] theorem e_orB  : orB t1 t2 g kB = t1 g fun b g1 => if b = true then kB true g1 else t2 g1 kB := rfl
@[simp ↓] theorem e_ifC {a b : Gam → (α → Gam → R) → R} {ka : α → Gam → R} : ifC ft a b g ka = ft g fun x g1 => if x = true then a g1 ka else b g1 ka := rfl
@[simp ↓] theorem e_nilC  : nilC g kL = kL [] g := rfl
@[simp ↓] theorem e_consC  : consC fa fs g kL = fa g fun x g1 => fs g1 fun xs g2 => kL (x :: xs) g2 := rfl
@[simp ↓] theorem e_tupC  : tupC fs g k = fs g fun ds g' => k (.tuple ds) g' := rfl
@[simp ↓] theorem e_lstC  : lstC fs g kS = fs g fun ds g' => kS (.ow (.list ds)) g' := rfl
@[simp ↓] theorem e_dctC  : dctC g kS = kS (.ow (.dict [])) g := rfl
@[simp ↓] theorem e_opsF {op : List D → Option Sl} : opsF op fs g kS = fs g fun ds g' => kop (op ds) g' kS := rfl
@[simp ↓] theorem e_opsD {op : List D → Option D} : opsD op fs g k = fs g fun ds g' => kopD (op ds) g' k := rfl
@[simp ↓] theorem e_isiC {Ts : List String} : isiC Ts f g k = f g fun d g' => k (.bool (instAny Ts d)) g' := rfl
@[simp ↓] theorem e_noO  : noO g kO = kO none g := rfl
@[simp ↓] theorem e_slcC  : slcC fa fl fh g kS = fa g fun x g1 => fl g1 fun lo g2 => fh g2 fun hi g3 => kop (cutF x lo hi) g3 kS := rfl
@[simp ↓] theorem e_callC {φ : Fd} : callC φ fs g kS = fs g fun ds g' => okR (φ ds) g' kS := rfl
@[simp ↓] theorem e_okR {s : Sl} : okR (.ok s []) g kS = kS s g := rfl
@[simp ↓] theorem e_okR1 {s : Sl} {k1 : Sl → D → R} : okR1 (.ok s [d]) k1 = k1 s d := rfl
@[simp ↓] theorem e_mutK {k2 : D → List D → R} : mutK (some (d, ds)) k2 = k2 d ds := rfl
@[simp ↓] theorem e_seqT  : seqT s1 s2 g kT = s1 g fun g' => s2 g' kT := rfl
@[simp ↓] theorem e_skipT  : skipT g kT = kT g := rfl
@[simp ↓] theorem e_brkT  : brkT g kT = .brk g := rfl
@[simp ↓] theorem e_contT  : contT g kT = .ct g := rfl
@[simp ↓] theorem e_retT  : retT ff g kT = ff g fun s g' => .ret s g' := rfl
@[simp ↓] theorem e_retN  : retN g kT = .ret (.sh .none) g := rfl
@[simp ↓] theorem e_dropT {fx : Gam → (α → Gam → R) → R} : dropT fx g kT = fx g fun _ g' => kT g' := rfl
@[simp ↓] theorem e_iffT  : iffT ft s1 s2 g kT = ft g fun b g1 => if b = true then s1 g1 kT else s2 g1 kT := rfl
@[simp ↓] theorem e_errT  : errT g kT = .err := rfl
@[simp ↓] theorem e_asgT  : asgT i ff g kT = ff g fun s g' => stC i s g' kT := rfl
@[simp ↓] theorem e_bindT  : bindT f fg g kT = f g fun d g' => fg d g' kT := rfl
@[simp ↓] theorem e_nameG  : nameG i d g kT = stC i (.sh d) g kT := rfl
@[simp ↓] theorem e_nilG  : nilG [] g kT = kT g := rfl
@[simp ↓] theorem e_consG  : consG fg fgs (d :: ds) g kT = fg d g fun g' => fgs ds g' kT := rfl
@[simp ↓] theorem e_tupG  : tupG n fgs (.tuple ds) g kT = if ds.length = n then fgs ds g kT else .err := rfl
@[simp ↓] theorem e_subT {fe fi : DnD} : subT i fe fi g kT = fe g fun d g' => putC i fi d g' kT := rfl
@[simp ↓] theorem e_yesB  : yesB g kB = kB true g := rfl
@[simp ↓] theorem e_seqI  : seqI f g kL = f g fun d g' => kopL (itemsD d) g' kL := rfl
@[simp ↓] theorem e_kopL  : kopL (some ds) g kL = kL ds g := rfl
@[simp ↓] theorem e_forT {fi : DnL} : forT fi fg s1 g kT = fi g fun ds g1 => thenR (forR (bodyR fg s1) g1 ds g1) kT := rfl
@[simp ↓] theorem e_whileT  : whileT n ft s1 g kT = thenR (whileR ft (bodyW s1) g n g) kT := rfl
@[simp ↓] theorem e_bodyR  : bodyR fg s1 d g = fg d g fun g' => s1 g' .nx := rfl
@[simp ↓] theorem e_bodyW  : bodyW s1 g = s1 g .nx := rfl
@[simp ↓] theorem e_thenR_nx  : thenR (.nx g) kT = kT g := rfl
@[simp ↓] theorem e_thenR_ret {s : Sl} : thenR (.ret s g) kT = .ret s g := rfl
@[simp ↓] theorem e_fnD {rf : List Nat} : fnD n rf s1 ds = endR rf (s1 (startG rf 0 ds ++ List.replicate (n - ds.length) .no) fun g => .ret (.sh .none) g) := rfl
@[simp ↓] theorem e_turnC {fe : DnD} : turnC fg ft fe d g = fg d g fun g' => ft g' fun b g2 => if b = true then fe g2 fun y g3 => .va (.sh y) g3 else .nx g2 := rfl
theorem thenR_of {r : R} (h : r = .nx g) : thenR r kT = kT g := by rw [h]; rfl
theorem thenR_rt {r : R} {s : Sl} (h : r = .ret s g) : thenR r kT = .ret s g := by rw [h]; rfl
@[simp ↓] theorem e_notV : notV fa g k = fa g fun x g1 => kopB (truD x) g1 fun b g => k (.bool (!b)) g := by
  unfold notV kopB; rfl
@[simp ↓] theorem e_andV : andV fa fb g k = fa g fun x g1 => kopB (truD x) g1 fun b g1 => if b = true then fb g1 k else k x g1 := by
  unfold andV kopB; congr 1; funext x g1; split <;> first | rfl | simp_all
@[simp ↓] theorem e_orV : orV fa fb g k = fa g fun x g1 => kopB (truD x) g1 fun b g1 => if b = true then k x g1 else fb g1 k := by
  unfold orV kopB; congr 1; funext x g1; split <;> first | rfl | simp_all
@[simp ↓] theorem e_atO : atO f g kO = f g fun d g' => kopO (intO d) g' fun i g' => kO (some i) g' := by
  unfold atO kopO; congr 1; funext x g1; cases x <;> rfl
@[simp ↓] theorem e_kopO {k : Int → Gam → R} {i : Int} : kopO (intO (.int i)) g k = k i g := rfl
@[simp ↓] theorem e_chnB {o1 o2 : D → D → Option Bool} : chnB o1 o2 fa fb fd g kB = fa g fun x g1 => fb g1 fun y g2 => kopB (o1 x y) g2 fun b g2 => if b = true then fd g2 fun z g3 => kopB (o2 y z) g3 kB else kB false g2 := by
  unfold chnB; congr 1; funext x g1; congr 1; funext y g2
  cases o1 x y with
  | none => rfl
  | some b => cases b <;> rfl
def joinK (x : D) (g1 : Gam) (fb : DnD) (k : KD) : R := match x with
  | .str _ => fb g1 fun y g2 => kopD (joinD x y) g2 k
  | _ => .err
@[simp ↓] theorem e_joinC : joinC fa fb g k = fa g fun x g1 => joinK x g1 fb k := rfl
@[simp ↓] theorem e_joinK {z : Str} : joinK (.str z) g fb k = fb g fun y g2 => kopD (joinD (.str z) y) g2 k := rfl
def parK (i j : Nat) (ds : List D) (g : Gam) (k : Gam → R) : R := match ds with
  | [x, y] => stC i (.sh x) g fun g2 => stC j (.sh y) g2 k
  | _ => .err
@[simp ↓] theorem e_parT : parT i j fs g kT = fs g fun ds g' => parK i j ds g' kT := rfl
@[simp ↓] theorem e_parK : parK i j [d, e] g kT = stC i (.sh d) g fun g2 => stC j (.sh e) g2 kT := rfl
def rngK (d d' : D) (g : Gam) (k : List D → Gam → R) : R := match d, d' with
  | .int a, .int b => if rngOk a b = true then k (rngD a b) g else .err
  | _, _ => .err
@[simp ↓] theorem e_rng1I : rng1I f g kL = f g fun d g' => rngK (.int 0) d g' kL := by
  unfold rng1I rngK; congr 1; funext d g'; cases d <;> rfl
@[simp ↓] theorem e_rng2I : rng2I fa fb g kL = fa g fun d g1 => fb g1 fun d' g2 => rngK d d' g2 kL := rfl
@[simp ↓] theorem e_rngK {a b : Int} (h : rngOk a b = true) : rngK (.int a) (.int b) g kL = kL (rngD a b) g := by
  simp only [rngK, h, if_true]
def lcK (vs : List Nat) (f : D → Gam → R) (ds : List D) (g1 : Gam) (k : KS) : R := if okW vs g1 = true then (match compR f vs ds (wipeG g1 vs) [] with
  | some (out, g2) => k (.ow (.list out)) (restW vs g1 g2)
  | none => .err) else .err
@[simp ↓] theorem e_lcC {vs : List Nat} {fi : DnL} {fe : DnD} : lcC vs fi fg ft fe g kS = fi g fun ds g1 => lcK vs (turnC fg ft fe) ds g1 kS := rfl
theorem lcK_of {vs : List Nat} {f : D → Gam → R} {g2 g3 : Gam} {out : List D} (hw : okW vs g = true) (h : compR f vs ds (wipeG g vs) [] = some (out, g2)) (h3 : restW vs g g2 = g3) : lcK vs f ds g kS = kS (.ow (.list out)) g3 := by
  simp only [lcK, hw, h, h3, if_true]
-- data
@[simp ↓] theorem t_bool {b : Bool} : kopB (truD (.bool b)) g kB = kB b g := rfl
@[simp ↓] theorem t_none : kopB (truD .none) g kB = kB false g := rfl
@[simp ↓] theorem t_int {x : Int} : kopB (truD (.int x)) g kB = kB (x != 0) g := rfl
@[simp ↓] theorem t_list : kopB (truD (.list ds)) g kB = kB (!ds.isEmpty) g := rfl
@[simp ↓] theorem t_tuple : kopB (truD (.tuple ds)) g kB = kB (!ds.isEmpty) g := rfl
@[simp ↓] theorem t_str {z : Str} (h : z.length ≤ sizeLine) : kopB (truD (.str z)) g kB = kB ((z.length : Int) != 0) g := by
  simp only [truD, h, if_true]; rfl
section
variable {x y : Int}
@[simp ↓] theorem o_add : kop (addS (.int x) (.int y)) g kS = kS (.sh (.int (x + y))) g := rfl
@[simp ↓] theorem o_addT (h : ds.length + es.length ≤ sizeLine) : kop (addS (.tuple ds) (.tuple es)) g kS = kS (.sh (.tuple (ds ++ es))) g := by
  simp only [addS, h, if_true]; rfl
@[simp ↓] theorem o_addL (h : ds.length + es.length ≤ sizeLine) : kop (addS (.list ds) (.list es)) g kS = kS (.ow (.list (ds ++ es))) g := by
  simp only [addS, h, if_true]; rfl
@[simp ↓] theorem o_addZ {a b : Str} (h : a.length + b.length ≤ sizeLine) : kop (addS (.str a) (.str b)) g kS = kS (.sh (.str (a ++ b))) g := by
  simp only [addS, h, if_true]; rfl
@[simp ↓] theorem o_sub : kopD (subD (.int x) (.int y)) g k = k (.int (x - y)) g := rfl
@[simp ↓] theorem o_neg : kopD (negD (.int x)) g k = k (.int (-x)) g := rfl
theorem cMul_r (h : y.natAbs < 2 ^ 64) : cMul x y = true := by
  unfold cMul; rw [Bool.or_eq_true]; exact .inr (decide_eq_true (by omega))
theorem cMul_l (h : x.natAbs < 2 ^ 64) : cMul x y = true := by
  unfold cMul; rw [Bool.or_eq_true]; exact .inl (decide_eq_true (by omega))
theorem iiD_of {c : Int → Int → Bool} {f : Int → Int → Int} (h : c x y = true) : kopD (iiD c f (.int x) (.int y)) g k = k (.int (f x y)) g := by
  unfold iiD; simp only [h, if_true]; rfl
@[simp ↓] theorem o_mulr (h : y.natAbs < 2 ^ 64) : kopD (mulD (.int x) (.int y)) g k = k (.int (x * y)) g := iiD_of (cMul_r h)
@[simp ↓] theorem o_mull (h : x.natAbs < 2 ^ 64) : kopD (mulD (.int x) (.int y)) g k = k (.int (x * y)) g := iiD_of (cMul_l h)
@[simp ↓] theorem o_fdv (h : 0 < y) (h2 : y < 1073741824) : kopD (fdvD (.int x) (.int y)) g k = k (.int (x / y)) g := iiD_of (decide_eq_true ⟨h, h2⟩)
@[simp ↓] theorem o_mod (h : 0 < y) : kopD (modD (.int x) (.int y)) g k = k (.int (x % y)) g := iiD_of (decide_eq_true h)
@[simp ↓] theorem o_pow (h : 0 ≤ y ∧ y ≤ 1000 ∧ x.natAbs < 2 ^ 64) : kopD (powD (.int x) (.int y)) g k = k (.int (x ^ y.toNat)) g := iiD_of (decide_eq_true h)
@[simp ↓] theorem c_lt : kopB (ltB (.int x) (.int y)) g kB = kB (decide (x < y)) g := rfl
@[simp ↓] theorem c_le : kopB (leB (.int x) (.int y)) g kB = kB (decide (x ≤ y)) g := rfl
@[simp ↓] theorem c_gt : kopB (gtB (.int x) (.int y)) g kB = kB (decide (y < x)) g := rfl
@[simp ↓] theorem c_ge : kopB (geB (.int x) (.int y)) g kB = kB (decide (y ≤ x)) g := rfl
theorem cmpOk_int : cmpOk (.int x) = true := by unfold cmpOk SeqAt.shaped; simp [PyData.canLay0, PyData.depth]
theorem cmpOk_bool {b : Bool} : cmpOk (.bool b) = true := by unfold cmpOk SeqAt.shaped; simp [PyData.canLay0, PyData.depth]
theorem cmpOk_none : cmpOk .none = true := by unfold cmpOk SeqAt.shaped; simp [PyData.canLay0, PyData.depth]
theorem cmpOk_str {z : Str} : cmpOk (.str z) = PyData.strOk z := by unfold cmpOk SeqAt.shaped; simp [PyData.canLay0, PyData.depth]
theorem kopB_eq (h : cmpOk d = true) (h2 : cmpOk e = true) : kopB (eqB d e) g kB = kB (PyData.eqv d e) g := by
  unfold eqB; rw [h, h2]; rfl
theorem kopB_ne (h : cmpOk d = true) (h2 : cmpOk e = true) : kopB (neB d e) g kB = kB (!PyData.eqv d e) g := by
  unfold neB; rw [h, h2]; rfl
@[simp ↓ high] theorem c_eqI : kopB (eqB (.int x) (.int y)) g kB = kB (x == y) g := by
  rw [kopB_eq cmpOk_int cmpOk_int]; unfold PyData.eqv; rfl
@[simp ↓ high] theorem c_neI : kopB (neB (.int x) (.int y)) g kB = kB (!(x == y)) g := by
  rw [kopB_ne cmpOk_int cmpOk_int]; unfold PyData.eqv; rfl
end
@[simp ↓] theorem c_eq (h : cmpOk d = true) (h2 : cmpOk e = true) : kopB (eqB d e) g kB = kB (PyData.eqv d e) g := kopB_eq h h2
@[simp ↓] theorem c_ne (h : cmpOk d = true) (h2 : cmpOk e = true) : kopB (neB d e) g kB = kB (!PyData.eqv d e) g := kopB_ne h h2
@[simp ↓] theorem c_isN : kopB (isNoneB d .none) g kB = kB (nonB d) g := by cases d <;> rfl
@[simp ↓] theorem c_noN : kopB (noNoneB d .none) g kB = kB (!nonB d) g := by cases d <;> rfl
@[simp ↓] theorem c_isB {a b : Bool} : kopB (isBB (.bool a) (.bool b)) g kB = kB (decide (a = b)) g := rfl
@[simp ↓] theorem c_noB {a b : Bool} : kopB (noBB (.bool a) (.bool b)) g kB = kB (!decide (a = b)) g := rfl
@[simp ↓] theorem c_inL (h : cmpOk d = true) (h2 : cmpOk (.list ds) = true) : kopB (inB d (.list ds)) g kB = kB (ds.any fun z => PyData.eqv z d) g := by
  unfold inB; simp only [h, h2]; rfl
@[simp ↓] theorem c_inT (h : cmpOk d = true) (h2 : cmpOk (.tuple ds) = true) : kopB (inB d (.tuple ds)) g kB = kB (ds.any fun z => PyData.eqv z d) g := by
  unfold inB; simp only [h, h2]; rfl
@[simp ↓] theorem c_niL (h : cmpOk d = true) (h2 : cmpOk (.list ds) = true) : kopB (niB d (.list ds)) g kB = kB (!ds.any fun z => PyData.eqv z d) g := by
  unfold niB inB; simp only [h, h2]; rfl
@[simp ↓] theorem c_niT (h : cmpOk d = true) (h2 : cmpOk (.tuple ds) = true) : kopB (niB d (.tuple ds)) g kB = kB (!ds.any fun z => PyData.eqv z d) g := by
  unfold niB inB; simp only [h, h2]; rfl
@[simp ↓] theorem e_opBD {op : D → D → Option Bool} : kopD (opBD op d e) g k = kopB (op d e) g fun b g => k (.bool b) g := by
  unfold opBD; cases op d e <;> rfl
@[simp ↓] theorem o_lenL : kopD (lenD [.list ds]) g k = k (.int ds.length) g := rfl
@[simp ↓] theorem o_lenT : kopD (lenD [.tuple ds]) g k = k (.int ds.length) g := rfl
@[simp ↓] theorem o_lenS {z : Str} (h : z.length ≤ sizeLine) : kopD (lenD [.str z]) g k = k (.int z.length) g := by
  simp only [lenD, h, if_true]; rfl
@[simp ↓] theorem o_int {x : Int} : kopD (intD [.int x]) g k = k (.int x) g := rfl
@[simp ↓] theorem o_intB {b : Bool} : kopD (intD [.bool b]) g k = k (.int (if b then 1 else 0)) g := rfl
@[simp ↓] theorem o_tupL : kopD (tupX [.list ds]) g k = k (.tuple ds) g := rfl
@[simp ↓] theorem o_tupT : kopD (tupX [.tuple ds]) g k = k (.tuple ds) g := rfl
@[simp ↓] theorem o_tupS {z : Str} (h : z.length ≤ sizeLine) : kopD (tupX [.str z]) g k = k (.tuple (signs z)) g := by
  unfold tupX; simp only [h, if_true]; rfl
@[simp ↓] theorem o_lstL : kop (listF [.list ds]) g kS = kS (.ow (.list ds)) g := rfl
@[simp ↓] theorem o_lstT : kop (listF [.tuple ds]) g kS = kS (.ow (.list ds)) g := rfl
@[simp ↓] theorem o_strI {x : Int} (h : x.natAbs.log2 < 1920) : kopD (strD [.int x]) g k = k (.str (toString x)) g := by
  unfold strD; simp only [h, if_true]; rfl
@[simp ↓] theorem o_strN : kopD (strD [.none]) g k = k (.str "None") g := rfl
@[simp ↓] theorem o_cutL {lo hi : Option Int} : kop (cutF (.list ds) lo hi) g kS = kS (.ow (.list (cutL ds lo hi))) g := rfl
@[simp ↓] theorem o_cutT {lo hi : Option Int} : kop (cutF (.tuple ds) lo hi) g kS = kS (.sh (.tuple (cutL ds lo hi))) g := rfl
@[simp ↓] theorem o_cutS {z : Str} {lo hi : Option Int} (h : z.length ≤ sizeLine) : kop (cutF (.str z) lo hi) g kS = kS (.sh (.str (cutS z lo hi))) g := by
  unfold cutF; simp only [h, if_true]; rfl
@[simp ↓] theorem o_revL : kop (revF (.list ds)) g kS = kS (.ow (.list ds.reverse)) g := rfl
@[simp ↓] theorem o_revT : kop (revF (.tuple ds)) g kS = kS (.sh (.tuple ds.reverse)) g := rfl
@[simp ↓] theorem o_revS {z : Str} (h : z.length ≤ sizeLine) : kop (revF (.str z)) g kS = kS (.sh (.str (revS z))) g := by
  unfold revF; simp only [h, if_true]; rfl
@[simp ↓] theorem o_ixL {x : Int} : kopD (ixD (.list ds) (.int x)) g k = kopD (atI ds x) g k := rfl
@[simp ↓] theorem o_ixT {x : Int} : kopD (ixD (.tuple ds) (.int x)) g k = kopD (atI ds x) g k := rfl
@[simp ↓] theorem i_list : kopL (itemsD (.list ds)) g kL = kL ds g := rfl
@[simp ↓] theorem i_tuple : kopL (itemsD (.tuple ds)) g kL = kL ds g := rfl
@[simp ↓] theorem i_str {z : Str} (h : z.length ≤ sizeLine) : kopL (itemsD (.str z)) g kL = kL (signs z) g := by
  unfold itemsD; simp only [h, if_true]; rfl
theorem zat_of {x : Int} (h : atI ds x = some d) : kopD (atI ds x) g k = k d g := by rw [h]; rfl
theorem zatI_nat (x : Int) (h : 0 ≤ x) : atI ds x = ds[x.toNat]? := by
  unfold atI ixN
  by_cases h2 : x < ds.length
  · simp only [h, h2, if_true]; rfl
  · have : ds.length ≤ x.toNat := by omega
    rw [List.getElem?_eq_none this]
    simp only [h, h2, if_true, if_false]; rfl
theorem atI_end : atI (ds ++ [d]) (-1) = some d := by
  unfold atI ixN
  have h1 : ¬ (0 : Int) ≤ -1 := by omega
  have h2 : -((ds ++ [d]).length : Int) ≤ -1 := by rw [List.length_append, List.length_singleton]; omega
  simp only [h1, h2, if_true, if_false]
  have e : ((-1 : Int) + ((ds ++ [d]).length : Int)).toNat = ds.length := by rw [List.length_append, List.length_singleton]; omega
  show (ds ++ [d])[((-1 : Int) + ((ds ++ [d]).length : Int)).toNat]? = _
  rw [e]; simp
@[simp ↓] theorem k_at_end : kopD (atI (ds ++ [d]) (-1)) g k = k d g := zat_of atI_end
@[simp ↓] theorem k_at_1_0 {a0 : D} : kopD (atI [a0] 0) g k = k a0 g := rfl
@[simp ↓] theorem k_at_2_0 {a0 a1 : D} : kopD (atI [a0, a1] 0) g k = k a0 g := rfl
@[simp ↓] theorem k_at_2_1 {a0 a1 : D} : kopD (atI [a0, a1] 1) g k = k a1 g := rfl
@[simp ↓] theorem k_at_3_0 {a0 a1 a2 : D} : kopD (atI [a0, a1, a2] 0) g k = k a0 g := rfl
@[simp ↓] theorem k_at_3_1 {a0 a1 a2 : D} : kopD (atI [a0, a1, a2] 1) g k = k a1 g := rfl
@[simp ↓] theorem k_at_3_2 {a0 a1 a2 : D} : kopD (atI [a0, a1, a2] 2) g k = k a2 g := rfl
@[simp ↓] theorem k_at_4_0 {a0 a1 a2 a3 : D} : kopD (atI [a0, a1, a2, a3] 0) g k = k a0 g := rfl
@[simp ↓] theorem k_at_4_1 {a0 a1 a2 a3 : D} : kopD (atI [a0, a1, a2, a3] 1) g k = k a1 g := rfl
@[simp ↓] theorem k_at_4_2 {a0 a1 a2 a3 : D} : kopD (atI [a0, a1, a2, a3] 2) g k = k a2 g := rfl
@[simp ↓] theorem k_at_4_3 {a0 a1 a2 a3 : D} : kopD (atI [a0, a1, a2, a3] 3) g k = k a3 g := rfl
@[simp ↓] theorem k_at_5_0 {a0 a1 a2 a3 a4 : D} : kopD (atI [a0, a1, a2, a3, a4] 0) g k = k a0 g := rfl
@[simp ↓] theorem k_at_5_1 {a0 a1 a2 a3 a4 : D} : kopD (atI [a0, a1, a2, a3, a4] 1) g k = k a1 g := rfl
@[simp ↓] theorem k_at_5_2 {a0 a1 a2 a3 a4 : D} : kopD (atI [a0, a1, a2, a3, a4] 2) g k = k a2 g := rfl
@[simp ↓] theorem k_at_5_3 {a0 a1 a2 a3 a4 : D} : kopD (atI [a0, a1, a2, a3, a4] 3) g k = k a3 g := rfl
@[simp ↓] theorem k_at_5_4 {a0 a1 a2 a3 a4 : D} : kopD (atI [a0, a1, a2, a3, a4] 4) g k = k a4 g := rfl
@[simp ↓] theorem k_at_6_0 {a0 a1 a2 a3 a4 a5 : D} : kopD (atI [a0, a1, a2, a3, a4, a5] 0) g k = k a0 g := rfl
@[simp ↓] theorem k_at_6_1 {a0 a1 a2 a3 a4 a5 : D} : kopD (atI [a0, a1, a2, a3, a4, a5] 1) g k = k a1 g := rfl
@[simp ↓] theorem k_at_6_2 {a0 a1 a2 a3 a4 a5 : D} : kopD (atI [a0, a1, a2, a3, a4, a5] 2) g k = k a2 g := rfl
@[simp ↓] theorem k_at_6_3 {a0 a1 a2 a3 a4 a5 : D} : kopD (atI [a0, a1, a2, a3, a4, a5] 3) g k = k a3 g := rfl
@[simp ↓] theorem k_at_6_4 {a0 a1 a2 a3 a4 a5 : D} : kopD (atI [a0, a1, a2, a3, a4, a5] 4) g k = k a4 g := rfl
@[simp ↓] theorem k_at_6_5 {a0 a1 a2 a3 a4 a5 : D} : kopD (atI [a0, a1, a2, a3, a4, a5] 5) g k = k a5 g := rfl
end
section
variable {g : Gam} {d e : D} {s : Sl} {k : KD} {kS : KS} {kT : Gam → R} {fs : DnL} {fi fe : DnD}
@[simp ↓] theorem b0sh  : borC 0 (.sh d :: g) k = k d (.sh d :: g) := rfl
@[simp ↓] theorem b0ow  : borC 0 (.ow d :: g) k = k d (.ow d :: g) := rfl
@[simp ↓] theorem b0rf  : borC 0 (.rf d :: g) k = k d (.rf d :: g) := rfl
@[simp ↓] theorem v0sh  : varC 0 (.sh d :: g) k = k d (.sh d :: g) := rfl
@[simp ↓] theorem v0ow  : varC 0 (.ow d :: g) k = k d (.sh d :: g) := rfl
@[simp ↓] theorem s0nosh  : stC 0 (.sh d) (.no :: g) kT = kT (.sh d :: g) := rfl
@[simp ↓] theorem s0noow  : stC 0 (.ow d) (.no :: g) kT = kT (.ow d :: g) := rfl
@[simp ↓] theorem s0shsh  : stC 0 (.sh d) (.sh e :: g) kT = kT (.sh d :: g) := rfl
@[simp ↓] theorem s0show  : stC 0 (.ow d) (.sh e :: g) kT = kT (.ow d :: g) := rfl
@[simp ↓] theorem s0owsh  : stC 0 (.sh d) (.ow e :: g) kT = kT (.sh d :: g) := rfl
@[simp ↓] theorem s0owow  : stC 0 (.ow d) (.ow e :: g) kT = kT (.ow d :: g) := rfl
@[simp ↓] theorem rv0sh  : retV 0 (.sh d :: g) kT = .ret (.sh d) (.sh d :: g) := rfl
@[simp ↓] theorem rv0ow  : retV 0 (.ow d :: g) kT = .ret (.ow d) (.no :: g) := rfl
@[simp ↓] theorem b1sh {s0 : Sl} : borC 1 (s0 :: .sh d :: g) k = k d (s0 :: .sh d :: g) := rfl
@[simp ↓] theorem b1ow {s0 : Sl} : borC 1 (s0 :: .ow d :: g) k = k d (s0 :: .ow d :: g) := rfl
@[simp ↓] theorem b1rf {s0 : Sl} : borC 1 (s0 :: .rf d :: g) k = k d (s0 :: .rf d :: g) := rfl
@[simp ↓] theorem v1sh {s0 : Sl} : varC 1 (s0 :: .sh d :: g) k = k d (s0 :: .sh d :: g) := rfl
@[simp ↓] theorem v1ow {s0 : Sl} : varC 1 (s0 :: .ow d :: g) k = k d (s0 :: .sh d :: g) := rfl
@[simp ↓] theorem s1nosh {s0 : Sl} : stC 1 (.sh d) (s0 :: .no :: g) kT = kT (s0 :: .sh d :: g) := rfl
@[simp ↓] theorem s1noow {s0 : Sl} : stC 1 (.ow d) (s0 :: .no :: g) kT = kT (s0 :: .ow d :: g) := rfl
@[simp ↓] theorem s1shsh {s0 : Sl} : stC 1 (.sh d) (s0 :: .sh e :: g) kT = kT (s0 :: .sh d :: g) := rfl
@[simp ↓] theorem s1show {s0 : Sl} : stC 1 (.ow d) (s0 :: .sh e :: g) kT = kT (s0 :: .ow d :: g) := rfl
@[simp ↓] theorem s1owsh {s0 : Sl} : stC 1 (.sh d) (s0 :: .ow e :: g) kT = kT (s0 :: .sh d :: g) := rfl
@[simp ↓] theorem s1owow {s0 : Sl} : stC 1 (.ow d) (s0 :: .ow e :: g) kT = kT (s0 :: .ow d :: g) := rfl
@[simp ↓] theorem rv1sh {s0 : Sl} : retV 1 (s0 :: .sh d :: g) kT = .ret (.sh d) (s0 :: .sh d :: g) := rfl
@[simp ↓] theorem rv1ow {s0 : Sl} : retV 1 (s0 :: .ow d :: g) kT = .ret (.ow d) (s0 :: .no :: g) := rfl
@[simp ↓] theorem b2sh {s0 s1 : Sl} : borC 2 (s0 :: s1 :: .sh d :: g) k = k d (s0 :: s1 :: .sh d :: g) := rfl
@[simp ↓] theorem b2ow {s0 s1 : Sl} : borC 2 (s0 :: s1 :: .ow d :: g) k = k d (s0 :: s1 :: .ow d :: g) := rfl
@[simp ↓] theorem b2rf {s0 s1 : Sl} : borC 2 (s0 :: s1 :: .rf d :: g) k = k d (s0 :: s1 :: .rf d :: g) := rfl
@[simp ↓] theorem v2sh {s0 s1 : Sl} : varC 2 (s0 :: s1 :: .sh d :: g) k = k d (s0 :: s1 :: .sh d :: g) := rfl
@[simp ↓] theorem v2ow {s0 s1 : Sl} : varC 2 (s0 :: s1 :: .ow d :: g) k = k d (s0 :: s1 :: .sh d :: g) := rfl
@[simp ↓] theorem s2nosh {s0 s1 : Sl} : stC 2 (.sh d) (s0 :: s1 :: .no :: g) kT = kT (s0 :: s1 :: .sh d :: g) := rfl
@[simp ↓] theorem s2noow {s0 s1 : Sl} : stC 2 (.ow d) (s0 :: s1 :: .no :: g) kT = kT (s0 :: s1 :: .ow d :: g) := rfl
@[simp ↓] theorem s2shsh {s0 s1 : Sl} : stC 2 (.sh d) (s0 :: s1 :: .sh e :: g) kT = kT (s0 :: s1 :: .sh d :: g) := rfl
@[simp ↓] theorem s2show {s0 s1 : Sl} : stC 2 (.ow d) (s0 :: s1 :: .sh e :: g) kT = kT (s0 :: s1 :: .ow d :: g) := rfl
@[simp ↓] theorem s2owsh {s0 s1 : Sl} : stC 2 (.sh d) (s0 :: s1 :: .ow e :: g) kT = kT (s0 :: s1 :: .sh d :: g) := rfl
@[simp ↓] theorem s2owow {s0 s1 : Sl} : stC 2 (.ow d) (s0 :: s1 :: .ow e :: g) kT = kT (s0 :: s1 :: .ow d :: g) := rfl
@[simp ↓] theorem rv2sh {s0 s1 : Sl} : retV 2 (s0 :: s1 :: .sh d :: g) kT = .ret (.sh d) (s0 :: s1 :: .sh d :: g) := rfl
@[simp ↓] theorem rv2ow {s0 s1 : Sl} : retV 2 (s0 :: s1 :: .ow d :: g) kT = .ret (.ow d) (s0 :: s1 :: .no :: g) := rfl
@[simp ↓] theorem b3sh {s0 s1 s2 : Sl} : borC 3 (s0 :: s1 :: s2 :: .sh d :: g) k = k d (s0 :: s1 :: s2 :: .sh d :: g) := rfl
@[simp ↓] theorem b3ow {s0 s1 s2 : Sl} : borC 3 (s0 :: s1 :: s2 :: .ow d :: g) k = k d (s0 :: s1 :: s2 :: .ow d :: g) := rfl
@[simp ↓] theorem b3rf {s0 s1 s2 : Sl} : borC 3 (s0 :: s1 :: s2 :: .rf d :: g) k = k d (s0 :: s1 :: s2 :: .rf d :: g) := rfl
@[simp ↓] theorem v3sh {s0 s1 s2 : Sl} : varC 3 (s0 :: s1 :: s2 :: .sh d :: g) k = k d (s0 :: s1 :: s2 :: .sh d :: g) := rfl
@[simp ↓] theorem v3ow {s0 s1 s2 : Sl} : varC 3 (s0 :: s1 :: s2 :: .ow d :: g) k = k d (s0 :: s1 :: s2 :: .sh d :: g) := rfl
@[simp ↓] theorem s3nosh {s0 s1 s2 : Sl} : stC 3 (.sh d) (s0 :: s1 :: s2 :: .no :: g) kT = kT (s0 :: s1 :: s2 :: .sh d :: g) := rfl
@[simp ↓] theorem s3noow {s0 s1 s2 : Sl} : stC 3 (.ow d) (s0 :: s1 :: s2 :: .no :: g) kT = kT (s0 :: s1 :: s2 :: .ow d :: g) := rfl
@[simp ↓] theorem s3shsh {s0 s1 s2 : Sl} : stC 3 (.sh d) (s0 :: s1 :: s2 :: .sh e :: g) kT = kT (s0 :: s1 :: s2 :: .sh d :: g) := rfl
@[simp ↓] theorem s3show {s0 s1 s2 : Sl} : stC 3 (.ow d) (s0 :: s1 :: s2 :: .sh e :: g) kT = kT (s0 :: s1 :: s2 :: .ow d :: g) := rfl
@[simp ↓] theorem s3owsh {s0 s1 s2 : Sl} : stC 3 (.sh d) (s0 :: s1 :: s2 :: .ow e :: g) kT = kT (s0 :: s1 :: s2 :: .sh d :: g) := rfl
@[simp ↓] theorem s3owow {s0 s1 s2 : Sl} : stC 3 (.ow d) (s0 :: s1 :: s2 :: .ow e :: g) kT = kT (s0 :: s1 :: s2 :: .ow d :: g) := rfl
@[simp ↓] theorem rv3sh {s0 s1 s2 : Sl} : retV 3 (s0 :: s1 :: s2 :: .sh d :: g) kT = .ret (.sh d) (s0 :: s1 :: s2 :: .sh d :: g) := rfl
@[simp ↓] theorem rv3ow {s0 s1 s2 : Sl} : retV 3 (s0 :: s1 :: s2 :: .ow d :: g) kT = .ret (.ow d) (s0 :: s1 :: s2 :: .no :: g) := rfl
@[simp ↓] theorem b4sh {s0 s1 s2 s3 : Sl} : borC 4 (s0 :: s1 :: s2 :: s3 :: .sh d :: g) k = k d (s0 :: s1 :: s2 :: s3 :: .sh d :: g) := rfl
@[simp ↓] theorem b4ow {s0 s1 s2 s3 : Sl} : borC 4 (s0 :: s1 :: s2 :: s3 :: .ow d :: g) k = k d (s0 :: s1 :: s2 :: s3 :: .ow d :: g) := rfl
@[simp ↓] theorem b4rf {s0 s1 s2 s3 : Sl} : borC 4 (s0 :: s1 :: s2 :: s3 :: .rf d :: g) k = k d (s0 :: s1 :: s2 :: s3 :: .rf d :: g) := rfl
@[simp ↓] theorem v4sh {s0 s1 s2 s3 : Sl} : varC 4 (s0 :: s1 :: s2 :: s3 :: .sh d :: g) k = k d (s0 :: s1 :: s2 :: s3 :: .sh d :: g) := rfl
@[simp ↓] theorem v4ow {s0 s1 s2 s3 : Sl} : varC 4 (s0 :: s1 :: s2 :: s3 :: .ow d :: g) k = k d (s0 :: s1 :: s2 :: s3 :: .sh d :: g) := rfl
@[simp ↓] theorem s4nosh {s0 s1 s2 s3 : Sl} : stC 4 (.sh d) (s0 :: s1 :: s2 :: s3 :: .no :: g) kT = kT (s0 :: s1 :: s2 :: s3 :: .sh d :: g) := rfl
@[simp ↓] theorem s4noow {s0 s1 s2 s3 : Sl} : stC 4 (.ow d) (s0 :: s1 :: s2 :: s3 :: .no :: g) kT = kT (s0 :: s1 :: s2 :: s3 :: .ow d :: g) := rfl
@[simp ↓] theorem s4shsh {s0 s1 s2 s3 : Sl} : stC 4 (.sh d) (s0 :: s1 :: s2 :: s3 :: .sh e :: g) kT = kT (s0 :: s1 :: s2 :: s3 :: .sh d :: g) := rfl
@[simp ↓] theorem s4show {s0 s1 s2 s3 : Sl} : stC 4 (.ow d) (s0 :: s1 :: s2 :: s3 :: .sh e :: g) kT = kT (s0 :: s1 :: s2 :: s3 :: .ow d :: g) := rfl
@[simp ↓] theorem s4owsh {s0 s1 s2 s3 : Sl} : stC 4 (.sh d) (s0 :: s1 :: s2 :: s3 :: .ow e :: g) kT = kT (s0 :: s1 :: s2 :: s3 :: .sh d :: g) := rfl
@[simp ↓] theorem s4owow {s0 s1 s2 s3 : Sl} : stC 4 (.ow d) (s0 :: s1 :: s2 :: s3 :: .ow e :: g) kT = kT (s0 :: s1 :: s2 :: s3 :: .ow d :: g) := rfl
@[simp ↓] theorem rv4sh {s0 s1 s2 s3 : Sl} : retV 4 (s0 :: s1 :: s2 :: s3 :: .sh d :: g) kT = .ret (.sh d) (s0 :: s1 :: s2 :: s3 :: .sh d :: g) := rfl
@[simp ↓] theorem rv4ow {s0 s1 s2 s3 : Sl} : retV 4 (s0 :: s1 :: s2 :: s3 :: .ow d :: g) kT = .ret (.ow d) (s0 :: s1 :: s2 :: s3 :: .no :: g) := rfl
@[simp ↓] theorem b5sh {s0 s1 s2 s3 s4 : Sl} : borC 5 (s0 :: s1 :: s2 :: s3 :: s4 :: .sh d :: g) k = k d (s0 :: s1 :: s2 :: s3 :: s4 :: .sh d :: g) := rfl
@[simp ↓] theorem b5ow {s0 s1 s2 s3 s4 : Sl} : borC 5 (s0 :: s1 :: s2 :: s3 :: s4 :: .ow d :: g) k = k d (s0 :: s1 :: s2 :: s3 :: s4 :: .ow d :: g) := rfl
@[simp ↓] theorem b5rf {s0 s1 s2 s3 s4 : Sl} : borC 5 (s0 :: s1 :: s2 :: s3 :: s4 :: .rf d :: g) k = k d (s0 :: s1 :: s2 :: s3 :: s4 :: .rf d :: g) := rfl
@[simp ↓] theorem v5sh {s0 s1 s2 s3 s4 : Sl} : varC 5 (s0 :: s1 :: s2 :: s3 :: s4 :: .sh d :: g) k = k d (s0 :: s1 :: s2 :: s3 :: s4 :: .sh d :: g) := rfl
@[simp ↓] theorem v5ow {s0 s1 s2 s3 s4 : Sl} : varC 5 (s0 :: s1 :: s2 :: s3 :: s4 :: .ow d :: g) k = k d (s0 :: s1 :: s2 :: s3 :: s4 :: .sh d :: g) := rfl
@[simp ↓] theorem s5nosh {s0 s1 s2 s3 s4 : Sl} : stC 5 (.sh d) (s0 :: s1 :: s2 :: s3 :: s4 :: .no :: g) kT = kT (s0 :: s1 :: s2 :: s3 :: s4 :: .sh d :: g) := rfl
@[simp ↓] theorem s5noow {s0 s1 s2 s3 s4 : Sl} : stC 5 (.ow d) (s0 :: s1 :: s2 :: s3 :: s4 :: .no :: g) kT = kT (s0 :: s1 :: s2 :: s3 :: s4 :: .ow d :: g) := rfl
@[simp ↓] theorem s5shsh {s0 s1 s2 s3 s4 : Sl} : stC 5 (.sh d) (s0 :: s1 :: s2 :: s3 :: s4 :: .sh e :: g) kT = kT (s0 :: s1 :: s2 :: s3 :: s4 :: .sh d :: g) := rfl
@[simp ↓] theorem s5show {s0 s1 s2 s3 s4 : Sl} : stC 5 (.ow d) (s0 :: s1 :: s2 :: s3 :: s4 :: .sh e :: g) kT = kT (s0 :: s1 :: s2 :: s3 :: s4 :: .ow d :: g) := rfl
@[simp ↓] theorem s5owsh {s0 s1 s2 s3 s4 : Sl} : stC 5 (.sh d) (s0 :: s1 :: s2 :: s3 :: s4 :: .ow e :: g) kT = kT (s0 :: s1 :: s2 :: s3 :: s4 :: .sh d :: g) := rfl
@[simp ↓] theorem s5owow {s0 s1 s2 s3 s4 : Sl} : stC 5 (.ow d) (s0 :: s1 :: s2 :: s3 :: s4 :: .ow e :: g) kT = kT (s0 :: s1 :: s2 :: s3 :: s4 :: .ow d :: g) := rfl
@[simp ↓] theorem rv5sh {s0 s1 s2 s3 s4 : Sl} : retV 5 (s0 :: s1 :: s2 :: s3 :: s4 :: .sh d :: g) kT = .ret (.sh d) (s0 :: s1 :: s2 :: s3 :: s4 :: .sh d :: g) := rfl
@[simp ↓] theorem rv5ow {s0 s1 s2 s3 s4 : Sl} : retV 5 (s0 :: s1 :: s2 :: s3 :: s4 :: .ow d :: g) kT = .ret (.ow d) (s0 :: s1 :: s2 :: s3 :: s4 :: .no :: g) := rfl
@[simp ↓] theorem b6sh {s0 s1 s2 s3 s4 s5 : Sl} : borC 6 (s0 :: s1 :: s2 :: s3 :: s4 :: s5 :: .sh d :: g) k = k d (s0 :: s1 :: s2 :: s3 :: s4 :: s5 :: .sh d :: g) := rfl
@[simp ↓] theorem b6ow {s0 s1 s2 s3 s4 s5 : Sl} : borC 6 (s0 :: s1 :: s2 :: s3 :: s4 :: s5 :: .ow d :: g) k = k d (s0 :: s1 :: s2 :: s3 :: s4 :: s5 :: .ow d :: g) := rfl
@[simp ↓] theorem b6rf {s0 s1 s2 s3 s4 s5 : Sl} : borC 6 (s0 :: s1 :: s2 :: s3 :: s4 :: s5 :: .rf d :: g) k = k d (s0 :: s1 :: s2 :: s3 :: s4 :: s5 :: .rf d :: g) := rfl
@[simp ↓] theorem v6sh {s0 s1 s2 s3 s4 s5 : Sl} : varC 6 (s0 :: s1 :: s2 :: s3 :: s4 :: s5 :: .sh d :: g) k = k d (s0 :: s1 :: s2 :: s3 :: s4 :: s5 :: .sh d :: g) := rfl
@[simp ↓] theorem v6ow {s0 s1 s2 s3 s4 s5 : Sl} : varC 6 (s0 :: s1 :: s2 :: s3 :: s4 :: s5 :: .ow d :: g) k = k d (s0 :: s1 :: s2 :: s3 :: s4 :: s5 :: .sh d :: g) := rfl
@[simp ↓] theorem s6nosh {s0 s1 s2 s3 s4 s5 : Sl} : stC 6 (.sh d) (s0 :: s1 :: s2 :: s3 :: s4 :: s5 :: .no :: g) kT = kT (s0 :: s1 :: s2 :: s3 :: s4 :: s5 :: .sh d :: g) := rfl
@[simp ↓] theorem s6noow {s0 s1 s2 s3 s4 s5 : Sl} : stC 6 (.ow d) (s0 :: s1 :: s2 :: s3 :: s4 :: s5 :: .no :: g) kT = kT (s0 :: s1 :: s2 :: s3 :: s4 :: s5 :: .ow d :: g) := rfl
@[simp ↓] theorem s6shsh {s0 s1 s2 s3 s4 s5 : Sl} : stC 6 (.sh d) (s0 :: s1 :: s2 :: s3 :: s4 :: s5 :: .sh e :: g) kT = kT (s0 :: s1 :: s2 :: s3 :: s4 :: s5 :: .sh d :: g) := rfl
@[simp ↓] theorem s6show {s0 s1 s2 s3 s4 s5 : Sl} : stC 6 (.ow d) (s0 :: s1 :: s2 :: s3 :: s4 :: s5 :: .sh e :: g) kT = kT (s0 :: s1 :: s2 :: s3 :: s4 :: s5 :: .ow d :: g) := rfl
@[simp ↓] theorem s6owsh {s0 s1 s2 s3 s4 s5 : Sl} : stC 6 (.sh d) (s0 :: s1 :: s2 :: s3 :: s4 :: s5 :: .ow e :: g) kT = kT (s0 :: s1 :: s2 :: s3 :: s4 :: s5 :: .sh d :: g) := rfl
@[simp ↓] theorem s6owow {s0 s1 s2 s3 s4 s5 : Sl} : stC 6 (.ow d) (s0 :: s1 :: s2 :: s3 :: s4 :: s5 :: .ow e :: g) kT = kT (s0 :: s1 :: s2 :: s3 :: s4 :: s5 :: .ow d :: g) := rfl
@[simp ↓] theorem rv6sh {s0 s1 s2 s3 s4 s5 : Sl} : retV 6 (s0 :: s1 :: s2 :: s3 :: s4 :: s5 :: .sh d :: g) kT = .ret (.sh d) (s0 :: s1 :: s2 :: s3 :: s4 :: s5 :: .sh d :: g) := rfl
@[simp ↓] theorem rv6ow {s0 s1 s2 s3 s4 s5 : Sl} : retV 6 (s0 :: s1 :: s2 :: s3 :: s4 :: s5 :: .ow d :: g) kT = .ret (.ow d) (s0 :: s1 :: s2 :: s3 :: s4 :: s5 :: .no :: g) := rfl
@[simp ↓] theorem b7sh {s0 s1 s2 s3 s4 s5 s6 : Sl} : borC 7 (s0 :: s1 :: s2 :: s3 :: s4 :: s5 :: s6 :: .sh d :: g) k = k d (s0 :: s1 :: s2 :: s3 :: s4 :: s5 :: s6 :: .sh d :: g) := rfl
@[simp ↓] theorem b7ow {s0 s1 s2 s3 s4 s5 s6 : Sl} : borC 7 (s0 :: s1 :: s2 :: s3 :: s4 :: s5 :: s6 :: .ow d :: g) k = k d (s0 :: s1 :: s2 :: s3 :: s4 :: s5 :: s6 :: .ow d :: g) := rfl
@[simp ↓] theorem b7rf {s0 s1 s2 s3 s4 s5 s6 : Sl} : borC 7 (s0 :: s1 :: s2 :: s3 :: s4 :: s5 :: s6 :: .rf d :: g) k = k d (s0 :: s1 :: s2 :: s3 :: s4 :: s5 :: s6 :: .rf d :: g) := rfl
@[simp ↓] theorem v7sh {s0 s1 s2 s3 s4 s5 s6 : Sl} : varC 7 (s0 :: s1 :: s2 :: s3 :: s4 :: s5 :: s6 :: .sh d :: g) k = k d (s0 :: s1 :: s2 :: s3 :: s4 :: s5 :: s6 :: .sh d :: g) := rfl
@[simp ↓] theorem v7ow {s0 s1 s2 s3 s4 s5 s6 : Sl} : varC 7 (s0 :: s1 :: s2 :: s3 :: s4 :: s5 :: s6 :: .ow d :: g) k = k d (s0 :: s1 :: s2 :: s3 :: s4 :: s5 :: s6 :: .sh d :: g) := rfl
@[simp ↓] theorem s7nosh {s0 s1 s2 s3 s4 s5 s6 : Sl} : stC 7 (.sh d) (s0 :: s1 :: s2 :: s3 :: s4 :: s5 :: s6 :: .no :: g) kT = kT (s0 :: s1 :: s2 :: s3 :: s4 :: s5 :: s6 :: .sh d :: g) := rfl
@[simp ↓] theorem s7noow {s0 s1 s2 s3 s4 s5 s6 : Sl} : stC 7 (.ow d) (s0 :: s1 :: s2 :: s3 :: s4 :: s5 :: s6 :: .no :: g) kT = kT (s0 :: s1 :: s2 :: s3 :: s4 :: s5 :: s6 :: .ow d :: g) := rfl
@[simp ↓] theorem s7shsh {s0 s1 s2 s3 s4 s5 s6 : Sl} : stC 7 (.sh d) (s0 :: s1 :: s2 :: s3 :: s4 :: s5 :: s6 :: .sh e :: g) kT = kT (s0 :: s1 :: s2 :: s3 :: s4 :: s5 :: s6 :: .sh d :: g) := rfl
@[simp ↓] theorem s7show {s0 s1 s2 s3 s4 s5 s6 : Sl} : stC 7 (.ow d) (s0 :: s1 :: s2 :: s3 :: s4 :: s5 :: s6 :: .sh e :: g) kT = kT (s0 :: s1 :: s2 :: s3 :: s4 :: s5 :: s6 :: .ow d :: g) := rfl
@[simp ↓] theorem s7owsh {s0 s1 s2 s3 s4 s5 s6 : Sl} : stC 7 (.sh d) (s0 :: s1 :: s2 :: s3 :: s4 :: s5 :: s6 :: .ow e :: g) kT = kT (s0 :: s1 :: s2 :: s3 :: s4 :: s5 :: s6 :: .sh d :: g) := rfl
@[simp ↓] theorem s7owow {s0 s1 s2 s3 s4 s5 s6 : Sl} : stC 7 (.ow d) (s0 :: s1 :: s2 :: s3 :: s4 :: s5 :: s6 :: .ow e :: g) kT = kT (s0 :: s1 :: s2 :: s3 :: s4 :: s5 :: s6 :: .ow d :: g) := rfl
@[simp ↓] theorem rv7sh {s0 s1 s2 s3 s4 s5 s6 : Sl} : retV 7 (s0 :: s1 :: s2 :: s3 :: s4 :: s5 :: s6 :: .sh d :: g) kT = .ret (.sh d) (s0 :: s1 :: s2 :: s3 :: s4 :: s5 :: s6 :: .sh d :: g) := rfl
@[simp ↓] theorem rv7ow {s0 s1 s2 s3 s4 s5 s6 : Sl} : retV 7 (s0 :: s1 :: s2 :: s3 :: s4 :: s5 :: s6 :: .ow d :: g) kT = .ret (.ow d) (s0 :: s1 :: s2 :: s3 :: s4 :: s5 :: s6 :: .no :: g) := rfl
@[simp ↓] theorem b8sh {s0 s1 s2 s3 s4 s5 s6 s7 : Sl} : borC 8 (s0 :: s1 :: s2 :: s3 :: s4 :: s5 :: s6 :: s7 :: .sh d :: g) k = k d (s0 :: s1 :: s2 :: s3 :: s4 :: s5 :: s6 :: s7 :: .sh d :: g) := rfl
@[simp ↓] theorem b8ow {s0 s1 s2 s3 s4 s5 s6 s7 : Sl} : borC 8 (s0 :: s1 :: s2 :: s3 :: s4 :: s5 :: s6 :: s7 :: .ow d :: g) k = k d (s0 :: s1 :: s2 :: s3 :: s4 :: s5 :: s6 :: s7 :: .ow d :: g) := rfl
@[simp ↓] theorem b8rf {s0 s1 s2 s3 s4 s5 s6 s7 : Sl} : borC 8 (s0 :: s1 :: s2 :: s3 :: s4 :: s5 :: s6 :: s7 :: .rf d :: g) k = k d (s0 :: s1 :: s2 :: s3 :: s4 :: s5 :: s6 :: s7 :: .rf d :: g) := rfl
@[simp ↓] theorem v8sh {s0 s1 s2 s3 s4 s5 s6 s7 : Sl} : varC 8 (s0 :: s1 :: s2 :: s3 :: s4 :: s5 :: s6 :: s7 :: .sh d :: g) k = k d (s0 :: s1 :: s2 :: s3 :: s4 :: s5 :: s6 :: s7 :: .sh d :: g) := rfl
@[simp ↓] theorem v8ow {s0 s1 s2 s3 s4 s5 s6 s7 : Sl} : varC 8 (s0 :: s1 :: s2 :: s3 :: s4 :: s5 :: s6 :: s7 :: .ow d :: g) k = k d (s0 :: s1 :: s2 :: s3 :: s4 :: s5 :: s6 :: s7 :: .sh d :: g) := rfl
@[simp ↓] theorem s8nosh {s0 s1 s2 s3 s4 s5 s6 s7 : Sl} : stC 8 (.sh d) (s0 :: s1 :: s2 :: s3 :: s4 :: s5 :: s6 :: s7 :: .no :: g) kT = kT (s0 :: s1 :: s2 :: s3 :: s4 :: s5 :: s6 :: s7 :: .sh d :: g) := rfl
@[simp ↓] theorem s8noow {s0 s1 s2 s3 s4 s5 s6 s7 : Sl} : stC 8 (.ow d) (s0 :: s1 :: s2 :: s3 :: s4 :: s5 :: s6 :: s7 :: .no :: g) kT = kT (s0 :: s1 :: s2 :: s3 :: s4 :: s5 :: s6 :: s7 :: .ow d :: g) := rfl
@[simp ↓] theorem s8shsh {s0 s1 s2 s3 s4 s5 s6 s7 : Sl} : stC 8 (.sh d) (s0 :: s1 :: s2 :: s3 :: s4 :: s5 :: s6 :: s7 :: .sh e :: g) kT = kT (s0 :: s1 :: s2 :: s3 :: s4 :: s5 :: s6 :: s7 :: .sh d :: g) := rfl
@[simp ↓] theorem s8show {s0 s1 s2 s3 s4 s5 s6 s7 : Sl} : stC 8 (.ow d) (s0 :: s1 :: s2 :: s3 :: s4 :: s5 :: s6 :: s7 :: .sh e :: g) kT = kT (s0 :: s1 :: s2 :: s3 :: s4 :: s5 :: s6 :: s7 :: .ow d :: g) := rfl
@[simp ↓] theorem s8owsh {s0 s1 s2 s3 s4 s5 s6 s7 : Sl} : stC 8 (.sh d) (s0 :: s1 :: s2 :: s3 :: s4 :: s5 :: s6 :: s7 :: .ow e :: g) kT = kT (s0 :: s1 :: s2 :: s3 :: s4 :: s5 :: s6 :: s7 :: .sh d :: g) := rfl
@[simp ↓] theorem s8owow {s0 s1 s2 s3 s4 s5 s6 s7 : Sl} : stC 8 (.ow d) (s0 :: s1 :: s2 :: s3 :: s4 :: s5 :: s6 :: s7 :: .ow e :: g) kT = kT (s0 :: s1 :: s2 :: s3 :: s4 :: s5 :: s6 :: s7 :: .ow d :: g) := rfl
@[simp ↓] theorem rv8sh {s0 s1 s2 s3 s4 s5 s6 s7 : Sl} : retV 8 (s0 :: s1 :: s2 :: s3 :: s4 :: s5 :: s6 :: s7 :: .sh d :: g) kT = .ret (.sh d) (s0 :: s1 :: s2 :: s3 :: s4 :: s5 :: s6 :: s7 :: .sh d :: g) := rfl
@[simp ↓] theorem rv8ow {s0 s1 s2 s3 s4 s5 s6 s7 : Sl} : retV 8 (s0 :: s1 :: s2 :: s3 :: s4 :: s5 :: s6 :: s7 :: .ow d :: g) kT = .ret (.ow d) (s0 :: s1 :: s2 :: s3 :: s4 :: s5 :: s6 :: s7 :: .no :: g) := rfl
@[simp ↓] theorem b9sh {s0 s1 s2 s3 s4 s5 s6 s7 s8 : Sl} : borC 9 (s0 :: s1 :: s2 :: s3 :: s4 :: s5 :: s6 :: s7 :: s8 :: .sh d :: g) k = k d (s0 :: s1 :: s2 :: s3 :: s4 :: s5 :: s6 :: s7 :: s8 :: .sh d :: g) := rfl
@[simp ↓] theorem b9ow {s0 s1 s2 s3 s4 s5 s6 s7 s8 : Sl} : borC 9 (s0 :: s1 :: s2 :: s3 :: s4 :: s5 :: s6 :: s7 :: s8 :: .ow d :: g) k = k d (s0 :: s1 :: s2 :: s3 :: s4 :: s5 :: s6 :: s7 :: s8 :: .ow d :: g) := rfl
@[simp ↓] theorem b9rf {s0 s1 s2 s3 s4 s5 s6 s7 s8 : Sl} : borC 9 (s0 :: s1 :: s2 :: s3 :: s4 :: s5 :: s6 :: s7 :: s8 :: .rf d :: g) k = k d (s0 :: s1 :: s2 :: s3 :: s4 :: s5 :: s6 :: s7 :: s8 :: .rf d :: g) := rfl
@[simp ↓] theorem v9sh {s0 s1 s2 s3 s4 s5 s6 s7 s8 : Sl} : varC 9 (s0 :: s1 :: s2 :: s3 :: s4 :: s5 :: s6 :: s7 :: s8 :: .sh d :: g) k = k d (s0 :: s1 :: s2 :: s3 :: s4 :: s5 :: s6 :: s7 :: s8 :: .sh d :: g) := rfl
@[simp ↓] theorem v9ow {s0 s1 s2 s3 s4 s5 s6 s7 s8 : Sl} : varC 9 (s0 :: s1 :: s2 :: s3 :: s4 :: s5 :: s6 :: s7 :: s8 :: .ow d :: g) k = k d (s0 :: s1 :: s2 :: s3 :: s4 :: s5 :: s6 :: s7 :: s8 :: .sh d :: g) := rfl
@[simp ↓] theorem s9nosh {s0 s1 s2 s3 s4 s5 s6 s7 s8 : Sl} : stC 9 (.sh d) (s0 :: s1 :: s2 :: s3 :: s4 :: s5 :: s6 :: s7 :: s8 :: .no :: g) kT = kT (s0 :: s1 :: s2 :: s3 :: s4 :: s5 :: s6 :: s7 :: s8 :: .sh d :: g) := rfl
@[simp ↓] theorem s9noow {s0 s1 s2 s3 s4 s5 s6 s7 s8 : Sl} : stC 9 (.ow d) (s0 :: s1 :: s2 :: s3 :: s4 :: s5 :: s6 :: s7 :: s8 :: .no :: g) kT = kT (s0 :: s1 :: s2 :: s3 :: s4 :: s5 :: s6 :: s7 :: s8 :: .ow d :: g) := rfl
@[simp ↓] theorem s9shsh {s0 s1 s2 s3 s4 s5 s6 s7 s8 : Sl} : stC 9 (.sh d) (s0 :: s1 :: s2 :: s3 :: s4 :: s5 :: s6 :: s7 :: s8 :: .sh e :: g) kT = kT (s0 :: s1 :: s2 :: s3 :: s4 :: s5 :: s6 :: s7 :: s8 :: .sh d :: g) := rfl
@[simp ↓] theorem s9show {s0 s1 s2 s3 s4 s5 s6 s7 s8 : Sl} : stC 9 (.ow d) (s0 :: s1 :: s2 :: s3 :: s4 :: s5 :: s6 :: s7 :: s8 :: .sh e :: g) kT = kT (s0 :: s1 :: s2 :: s3 :: s4 :: s5 :: s6 :: s7 :: s8 :: .ow d :: g) := rfl
@[simp ↓] theorem s9owsh {s0 s1 s2 s3 s4 s5 s6 s7 s8 : Sl} : stC 9 (.sh d) (s0 :: s1 :: s2 :: s3 :: s4 :: s5 :: s6 :: s7 :: s8 :: .ow e :: g) kT = kT (s0 :: s1 :: s2 :: s3 :: s4 :: s5 :: s6 :: s7 :: s8 :: .sh d :: g) := rfl
@[simp ↓] theorem s9owow {s0 s1 s2 s3 s4 s5 s6 s7 s8 : Sl} : stC 9 (.ow d) (s0 :: s1 :: s2 :: s3 :: s4 :: s5 :: s6 :: s7 :: s8 :: .ow e :: g) kT = kT (s0 :: s1 :: s2 :: s3 :: s4 :: s5 :: s6 :: s7 :: s8 :: .ow d :: g) := rfl
@[simp ↓] theorem rv9sh {s0 s1 s2 s3 s4 s5 s6 s7 s8 : Sl} : retV 9 (s0 :: s1 :: s2 :: s3 :: s4 :: s5 :: s6 :: s7 :: s8 :: .sh d :: g) kT = .ret (.sh d) (s0 :: s1 :: s2 :: s3 :: s4 :: s5 :: s6 :: s7 :: s8 :: .sh d :: g) := rfl
@[simp ↓] theorem rv9ow {s0 s1 s2 s3 s4 s5 s6 s7 s8 : Sl} : retV 9 (s0 :: s1 :: s2 :: s3 :: s4 :: s5 :: s6 :: s7 :: s8 :: .ow d :: g) kT = .ret (.ow d) (s0 :: s1 :: s2 :: s3 :: s4 :: s5 :: s6 :: s7 :: s8 :: .no :: g) := rfl
@[simp ↓] theorem b10sh {s0 s1 s2 s3 s4 s5 s6 s7 s8 s9 : Sl} : borC 10 (s0 :: s1 :: s2 :: s3 :: s4 :: s5 :: s6 :: s7 :: s8 :: s9 :: .sh d :: g) k = k d (s0 :: s1 :: s2 :: s3 :: s4 :: s5 :: s6 :: s7 :: s8 :: s9 :: .sh d :: g) := rfl
@[simp ↓] theorem b10ow {s0 s1 s2 s3 s4 s5 s6 s7 s8 s9 : Sl} : borC 10 (s0 :: s1 :: s2 :: s3 :: s4 :: s5 :: s6 :: s7 :: s8 :: s9 :: .ow d :: g) k = k d (s0 :: s1 :: s2 :: s3 :: s4 :: s5 :: s6 :: s7 :: s8 :: s9 :: .ow d :: g) := rfl
@[simp ↓] theorem b10rf {s0 s1 s2 s3 s4 s5 s6 s7 s8 s9 : Sl} : borC 10 (s0 :: s1 :: s2 :: s3 :: s4 :: s5 :: s6 :: s7 :: s8 :: s9 :: .rf d :: g) k = k d (s0 :: s1 :: s2 :: s3 :: s4 :: s5 :: s6 :: s7 :: s8 :: s9 :: .rf d :: g) := rfl
@[simp ↓] theorem v10sh {s0 s1 s2 s3 s4 s5 s6 s7 s8 s9 : Sl} : varC 10 (s0 :: s1 :: s2 :: s3 :: s4 :: s5 :: s6 :: s7 :: s8 :: s9 :: .sh d :: g) k = k d (s0 :: s1 :: s2 :: s3 :: s4 :: s5 :: s6 :: s7 :: s8 :: s9 :: .sh d :: g) := rfl
@[simp ↓] theorem v10ow {s0 s1 s2 s3 s4 s5 s6 s7 s8 s9 : Sl} : varC 10 (s0 :: s1 :: s2 :: s3 :: s4 :: s5 :: s6 :: s7 :: s8 :: s9 :: .ow d :: g) k = k d (s0 :: s1 :: s2 :: s3 :: s4 :: s5 :: s6 :: s7 :: s8 :: s9 :: .sh d :: g) := rfl
@[simp ↓] theorem s10nosh {s0 s1 s2 s3 s4 s5 s6 s7 s8 s9 : Sl} : stC 10 (.sh d) (s0 :: s1 :: s2 :: s3 :: s4 :: s5 :: s6 :: s7 :: s8 :: s9 :: .no :: g) kT = kT (s0 :: s1 :: s2 :: s3 :: s4 :: s5 :: s6 :: s7 :: s8 :: s9 :: .sh d :: g) := rfl
@[simp ↓] theorem s10noow {s0 s1 s2 s3 s4 s5 s6 s7 s8 s9 : Sl} : stC 10 (.ow d) (s0 :: s1 :: s2 :: s3 :: s4 :: s5 :: s6 :: s7 :: s8 :: s9 :: .no :: g) kT = kT (s0 :: s1 :: s2 :: s3 :: s4 :: s5 :: s6 :: s7 :: s8 :: s9 :: .ow d :: g) := rfl
@[simp ↓] theorem s10shsh {s0 s1 s2 s3 s4 s5 s6 s7 s8 s9 : Sl} : stC 10 (.sh d) (s0 :: s1 :: s2 :: s3 :: s4 :: s5 :: s6 :: s7 :: s8 :: s9 :: .sh e :: g) kT = kT (s0 :: s1 :: s2 :: s3 :: s4 :: s5 :: s6 :: s7 :: s8 :: s9 :: .sh d :: g) := rfl
@[simp ↓] theorem s10show {s0 s1 s2 s3 s4 s5 s6 s7 s8 s9 : Sl} : stC 10 (.ow d) (s0 :: s1 :: s2 :: s3 :: s4 :: s5 :: s6 :: s7 :: s8 :: s9 :: .sh e :: g) kT = kT (s0 :: s1 :: s2 :: s3 :: s4 :: s5 :: s6 :: s7 :: s8 :: s9 :: .ow d :: g) := rfl
@[simp ↓] theorem s10owsh {s0 s1 s2 s3 s4 s5 s6 s7 s8 s9 : Sl} : stC 10 (.sh d) (s0 :: s1 :: s2 :: s3 :: s4 :: s5 :: s6 :: s7 :: s8 :: s9 :: .ow e :: g) kT = kT (s0 :: s1 :: s2 :: s3 :: s4 :: s5 :: s6 :: s7 :: s8 :: s9 :: .sh d :: g) := rfl
@[simp ↓] theorem s10owow {s0 s1 s2 s3 s4 s5 s6 s7 s8 s9 : Sl} : stC 10 (.ow d) (s0 :: s1 :: s2 :: s3 :: s4 :: s5 :: s6 :: s7 :: s8 :: s9 :: .ow e :: g) kT = kT (s0 :: s1 :: s2 :: s3 :: s4 :: s5 :: s6 :: s7 :: s8 :: s9 :: .ow d :: g) := rfl
@[simp ↓] theorem rv10sh {s0 s1 s2 s3 s4 s5 s6 s7 s8 s9 : Sl} : retV 10 (s0 :: s1 :: s2 :: s3 :: s4 :: s5 :: s6 :: s7 :: s8 :: s9 :: .sh d :: g) kT = .ret (.sh d) (s0 :: s1 :: s2 :: s3 :: s4 :: s5 :: s6 :: s7 :: s8 :: s9 :: .sh d :: g) := rfl
@[simp ↓] theorem rv10ow {s0 s1 s2 s3 s4 s5 s6 s7 s8 s9 : Sl} : retV 10 (s0 :: s1 :: s2 :: s3 :: s4 :: s5 :: s6 :: s7 :: s8 :: s9 :: .ow d :: g) kT = .ret (.ow d) (s0 :: s1 :: s2 :: s3 :: s4 :: s5 :: s6 :: s7 :: s8 :: s9 :: .no :: g) := rfl
@[simp ↓] theorem b11sh {s0 s1 s2 s3 s4 s5 s6 s7 s8 s9 s10 : Sl} : borC 11 (s0 :: s1 :: s2 :: s3 :: s4 :: s5 :: s6 :: s7 :: s8 :: s9 :: s10 :: .sh d :: g) k = k d (s0 :: s1 :: s2 :: s3 :: s4 :: s5 :: s6 :: s7 :: s8 :: s9 :: s10 :: .sh d :: g) := rfl
@[simp ↓] theorem b11ow {s0 s1 s2 s3 s4 s5 s6 s7 s8 s9 s10 : Sl} : borC 11 (s0 :: s1 :: s2 :: s3 :: s4 :: s5 :: s6 :: s7 :: s8 :: s9 :: s10 :: .ow d :: g) k = k d (s0 :: s1 :: s2 :: s3 :: s4 :: s5 :: s6 :: s7 :: s8 :: s9 :: s10 :: .ow d :: g) := rfl
@[simp ↓] theorem b11rf {s0 s1 s2 s3 s4 s5 s6 s7 s8 s9 s10 : Sl} : borC 11 (s0 :: s1 :: s2 :: s3 :: s4 :: s5 :: s6 :: s7 :: s8 :: s9 :: s10 :: .rf d :: g) k = k d (s0 :: s1 :: s2 :: s3 :: s4 :: s5 :: s6 :: s7 :: s8 :: s9 :: s10 :: .rf d :: g) := rfl
@[simp ↓] theorem v11sh {s0 s1 s2 s3 s4 s5 s6 s7 s8 s9 s10 : Sl} : varC 11 (s0 :: s1 :: s2 :: s3 :: s4 :: s5 :: s6 :: s7 :: s8 :: s9 :: s10 :: .sh d :: g) k = k d (s0 :: s1 :: s2 :: s3 :: s4 :: s5 :: s6 :: s7 :: s8 :: s9 :: s10 :: .sh d :: g) := rfl
@[simp ↓] theorem v11ow {s0 s1 s2 s3 s4 s5 s6 s7 s8 s9 s10 : Sl} : varC 11 (s0 :: s1 :: s2 :: s3 :: s4 :: s5 :: s6 :: s7 :: s8 :: s9 :: s10 :: .ow d :: g) k = k d (s0 :: s1 :: s2 :: s3 :: s4 :: s5 :: s6 :: s7 :: s8 :: s9 :: s10 :: .sh d :: g) := rfl
@[simp ↓] theorem s11nosh {s0 s1 s2 s3 s4 s5 s6 s7 s8 s9 s10 : Sl} : stC 11 (.sh d) (s0 :: s1 :: s2 :: s3 :: s4 :: s5 :: s6 :: s7 :: s8 :: s9 :: s10 :: .no :: g) kT = kT (s0 :: s1 :: s2 :: s3 :: s4 :: s5 :: s6 :: s7 :: s8 :: s9 :: s10 :: .sh d :: g) := rfl
@[simp ↓] theorem s11noow {s0 s1 s2 s3 s4 s5 s6 s7 s8 s9 s10 : Sl} : stC 11 (.ow d) (s0 :: s1 :: s2 :: s3 :: s4 :: s5 :: s6 :: s7 :: s8 :: s9 :: s10 :: .no :: g) kT = kT (s0 :: s1 :: s2 :: s3 :: s4 :: s5 :: s6 :: s7 :: s8 :: s9 :: s10 :: .ow d :: g) := rfl
@[simp ↓] theorem s11shsh {s0 s1 s2 s3 s4 s5 s6 s7 s8 s9 s10 : Sl} : stC 11 (.sh d) (s0 :: s1 :: s2 :: s3 :: s4 :: s5 :: s6 :: s7 :: s8 :: s9 :: s10 :: .sh e :: g) kT = kT (s0 :: s1 :: s2 :: s3 :: s4 :: s5 :: s6 :: s7 :: s8 :: s9 :: s10 :: .sh d :: g) := rfl
@[simp ↓] theorem s11show {s0 s1 s2 s3 s4 s5 s6 s7 s8 s9 s10 : Sl} : stC 11 (.ow d) (s0 :: s1 :: s2 :: s3 :: s4 :: s5 :: s6 :: s7 :: s8 :: s9 :: s10 :: .sh e :: g) kT = kT (s0 :: s1 :: s2 :: s3 :: s4 :: s5 :: s6 :: s7 :: s8 :: s9 :: s10 :: .ow d :: g) := rfl
@[simp ↓] theorem s11owsh {s0 s1 s2 s3 s4 s5 s6 s7 s8 s9 s10 : Sl} : stC 11 (.sh d) (s0 :: s1 :: s2 :: s3 :: s4 :: s5 :: s6 :: s7 :: s8 :: s9 :: s10 :: .ow e :: g) kT = kT (s0 :: s1 :: s2 :: s3 :: s4 :: s5 :: s6 :: s7 :: s8 :: s9 :: s10 :: .sh d :: g) := rfl
@[simp ↓] theorem s11owow {s0 s1 s2 s3 s4 s5 s6 s7 s8 s9 s10 : Sl} : stC 11 (.ow d) (s0 :: s1 :: s2 :: s3 :: s4 :: s5 :: s6 :: s7 :: s8 :: s9 :: s10 :: .ow e :: g) kT = kT (s0 :: s1 :: s2 :: s3 :: s4 :: s5 :: s6 :: s7 :: s8 :: s9 :: s10 :: .ow d :: g) := rfl
@[simp ↓] theorem rv11sh {s0 s1 s2 s3 s4 s5 s6 s7 s8 s9 s10 : Sl} : retV 11 (s0 :: s1 :: s2 :: s3 :: s4 :: s5 :: s6 :: s7 :: s8 :: s9 :: s10 :: .sh d :: g) kT = .ret (.sh d) (s0 :: s1 :: s2 :: s3 :: s4 :: s5 :: s6 :: s7 :: s8 :: s9 :: s10 :: .sh d :: g) := rfl
@[simp ↓] theorem rv11ow {s0 s1 s2 s3 s4 s5 s6 s7 s8 s9 s10 : Sl} : retV 11 (s0 :: s1 :: s2 :: s3 :: s4 :: s5 :: s6 :: s7 :: s8 :: s9 :: s10 :: .ow d :: g) kT = .ret (.ow d) (s0 :: s1 :: s2 :: s3 :: s4 :: s5 :: s6 :: s7 :: s8 :: s9 :: s10 :: .no :: g) := rfl
@[simp ↓] theorem b12sh {s0 s1 s2 s3 s4 s5 s6 s7 s8 s9 s10 s11 : Sl} : borC 12 (s0 :: s1 :: s2 :: s3 :: s4 :: s5 :: s6 :: s7 :: s8 :: s9 :: s10 :: s11 :: .sh d :: g) k = k d (s0 :: s1 :: s2 :: s3 :: s4 :: s5 :: s6 :: s7 :: s8 :: s9 :: s10 :: s11 :: .sh d :: g) := rfl
@[simp ↓] theorem b12ow {s0 s1 s2 s3 s4 s5 s6 s7 s8 s9 s10 s11 : Sl} : borC 12 (s0 :: s1 :: s2 :: s3 :: s4 :: s5 :: s6 :: s7 :: s8 :: s9 :: s10 :: s11 :: .ow d :: g) k = k d (s0 :: s1 :: s2 :: s3 :: s4 :: s5 :: s6 :: s7 :: s8 :: s9 :: s10 :: s11 :: .ow d :: g) := rfl
@[simp ↓] theorem b12rf {s0 s1 s2 s3 s4 s5 s6 s7 s8 s9 s10 s11 : Sl} : borC 12 (s0 :: s1 :: s2 :: s3 :: s4 :: s5 :: s6 :: s7 :: s8 :: s9 :: s10 :: s11 :: .rf d :: g) k = k d (s0 :: s1 :: s2 :: s3 :: s4 :: s5 :: s6 :: s7 :: s8 :: s9 :: s10 :: s11 :: .rf d :: g) := rfl
@[simp ↓] theorem v12sh {s0 s1 s2 s3 s4 s5 s6 s7 s8 s9 s10 s11 : Sl} : varC 12 (s0 :: s1 :: s2 :: s3 :: s4 :: s5 :: s6 :: s7 :: s8 :: s9 :: s10 :: s11 :: .sh d :: g) k = k d (s0 :: s1 :: s2 :: s3 :: s4 :: s5 :: s6 :: s7 :: s8 :: s9 :: s10 :: s11 :: .sh d :: g) := rfl
@[simp ↓] theorem v12ow {s0 s1 s2 s3 s4 s5 s6 s7 s8 s9 s10 s11 : Sl} : varC 12 (s0 :: s1 :: s2 :: s3 :: s4 :: s5 :: s6 :: s7 :: s8 :: s9 :: s10 :: s11 :: .ow d :: g) k = k d (s0 :: s1 :: s2 :: s3 :: s4 :: s5 :: s6 :: s7 :: s8 :: s9 :: s10 :: s11 :: .sh d :: g) := rfl
@[simp ↓] theorem s12nosh {s0 s1 s2 s3 s4 s5 s6 s7 s8 s9 s10 s11 : Sl} : stC 12 (.sh d) (s0 :: s1 :: s2 :: s3 :: s4 :: s5 :: s6 :: s7 :: s8 :: s9 :: s10 :: s11 :: .no :: g) kT = kT (s0 :: s1 :: s2 :: s3 :: s4 :: s5 :: s6 :: s7 :: s8 :: s9 :: s10 :: s11 :: .sh d :: g) := rfl
@[simp ↓] theorem s12noow {s0 s1 s2 s3 s4 s5 s6 s7 s8 s9 s10 s11 : Sl} : stC 12 (.ow d) (s0 :: s1 :: s2 :: s3 :: s4 :: s5 :: s6 :: s7 :: s8 :: s9 :: s10 :: s11 :: .no :: g) kT = kT (s0 :: s1 :: s2 :: s3 :: s4 :: s5 :: s6 :: s7 :: s8 :: s9 :: s10 :: s11 :: .ow d :: g) := rfl
@[simp ↓] theorem s12shsh {s0 s1 s2 s3 s4 s5 s6 s7 s8 s9 s10 s11 : Sl} : stC 12 (.sh d) (s0 :: s1 :: s2 :: s3 :: s4 :: s5 :: s6 :: s7 :: s8 :: s9 :: s10 :: s11 :: .sh e :: g) kT = kT (s0 :: s1 :: s2 :: s3 :: s4 :: s5 :: s6 :: s7 :: s8 :: s9 :: s10 :: s11 :: .sh d :: g) := rfl
@[simp ↓] theorem s12show {s0 s1 s2 s3 s4 s5 s6 s7 s8 s9 s10 s11 : Sl} : stC 12 (.ow d) (s0 :: s1 :: s2 :: s3 :: s4 :: s5 :: s6 :: s7 :: s8 :: s9 :: s10 :: s11 :: .sh e :: g) kT = kT (s0 :: s1 :: s2 :: s3 :: s4 :: s5 :: s6 :: s7 :: s8 :: s9 :: s10 :: s11 :: .ow d :: g) := rfl
@[simp ↓] theorem s12owsh {s0 s1 s2 s3 s4 s5 s6 s7 s8 s9 s10 s11 : Sl} : stC 12 (.sh d) (s0 :: s1 :: s2 :: s3 :: s4 :: s5 :: s6 :: s7 :: s8 :: s9 :: s10 :: s11 :: .ow e :: g) kT = kT (s0 :: s1 :: s2 :: s3 :: s4 :: s5 :: s6 :: s7 :: s8 :: s9 :: s10 :: s11 :: .sh d :: g) := rfl
@[simp ↓] theorem s12owow {s0 s1 s2 s3 s4 s5 s6 s7 s8 s9 s10 s11 : Sl} : stC 12 (.ow d) (s0 :: s1 :: s2 :: s3 :: s4 :: s5 :: s6 :: s7 :: s8 :: s9 :: s10 :: s11 :: .ow e :: g) kT = kT (s0 :: s1 :: s2 :: s3 :: s4 :: s5 :: s6 :: s7 :: s8 :: s9 :: s10 :: s11 :: .ow d :: g) := rfl
@[simp ↓] theorem rv12sh {s0 s1 s2 s3 s4 s5 s6 s7 s8 s9 s10 s11 : Sl} : retV 12 (s0 :: s1 :: s2 :: s3 :: s4 :: s5 :: s6 :: s7 :: s8 :: s9 :: s10 :: s11 :: .sh d :: g) kT = .ret (.sh d) (s0 :: s1 :: s2 :: s3 :: s4 :: s5 :: s6 :: s7 :: s8 :: s9 :: s10 :: s11 :: .sh d :: g) := rfl
@[simp ↓] theorem rv12ow {s0 s1 s2 s3 s4 s5 s6 s7 s8 s9 s10 s11 : Sl} : retV 12 (s0 :: s1 :: s2 :: s3 :: s4 :: s5 :: s6 :: s7 :: s8 :: s9 :: s10 :: s11 :: .ow d :: g) kT = .ret (.ow d) (s0 :: s1 :: s2 :: s3 :: s4 :: s5 :: s6 :: s7 :: s8 :: s9 :: s10 :: s11 :: .no :: g) := rfl
@[simp ↓] theorem b13sh {s0 s1 s2 s3 s4 s5 s6 s7 s8 s9 s10 s11 s12 : Sl} : borC 13 (s0 :: s1 :: s2 :: s3 :: s4 :: s5 :: s6 :: s7 :: s8 :: s9 :: s10 :: s11 :: s12 :: .sh d :: g) k = k d (s0 :: s1 :: s2 :: s3 :: s4 :: s5 :: s6 :: s7 :: s8 :: s9 :: s10 :: s11 :: s12 :: .sh d :: g) := rfl
@[simp ↓] theorem b13ow {s0 s1 s2 s3 s4 s5 s6 s7 s8 s9 s10 s11 s12 : Sl} : borC 13 (s0 :: s1 :: s2 :: s3 :: s4 :: s5 :: s6 :: s7 :: s8 :: s9 :: s10 :: s11 :: s12 :: .ow d :: g) k = k d (s0 :: s1 :: s2 :: s3 :: s4 :: s5 :: s6 :: s7 :: s8 :: s9 :: s10 :: s11 :: s12 :: .ow d :: g) := rfl
@[simp ↓] theorem b13rf {s0 s1 s2 s3 s4 s5 s6 s7 s8 s9 s10 s11 s12 : Sl} : borC 13 (s0 :: s1 :: s2 :: s3 :: s4 :: s5 :: s6 :: s7 :: s8 :: s9 :: s10 :: s11 :: s12 :: .rf d :: g) k = k d (s0 :: s1 :: s2 :: s3 :: s4 :: s5 :: s6 :: s7 :: s8 :: s9 :: s10 :: s11 :: s12 :: .rf d :: g) := rfl
@[simp ↓] theorem v13sh {s0 s1 s2 s3 s4 s5 s6 s7 s8 s9 s10 s11 s12 : Sl} : varC 13 (s0 :: s1 :: s2 :: s3 :: s4 :: s5 :: s6 :: s7 :: s8 :: s9 :: s10 :: s11 :: s12 :: .sh d :: g) k = k d (s0 :: s1 :: s2 :: s3 :: s4 :: s5 :: s6 :: s7 :: s8 :: s9 :: s10 :: s11 :: s12 :: .sh d :: g) := rfl
@[simp ↓] theorem v13ow {s0 s1 s2 s3 s4 s5 s6 s7 s8 s9 s10 s11 s12 : Sl} : varC 13 (s0 :: s1 :: s2 :: s3 :: s4 :: s5 :: s6 :: s7 :: s8 :: s9 :: s10 :: s11 :: s12 :: .ow d :: g) k = k d (s0 :: s1 :: s2 :: s3 :: s4 :: s5 :: s6 :: s7 :: s8 :: s9 :: s10 :: s11 :: s12 :: .sh d :: g) := rfl
@[simp ↓] theorem s13nosh {s0 s1 s2 s3 s4 s5 s6 s7 s8 s9 s10 s11 s12 : Sl} : stC 13 (.sh d) (s0 :: s1 :: s2 :: s3 :: s4 :: s5 :: s6 :: s7 :: s8 :: s9 :: s10 :: s11 :: s12 :: .no :: g) kT = kT (s0 :: s1 :: s2 :: s3 :: s4 :: s5 :: s6 :: s7 :: s8 :: s9 :: s10 :: s11 :: s12 :: .sh d :: g) := rfl
@[simp ↓] theorem s13noow {s0 s1 s2 s3 s4 s5 s6 s7 s8 s9 s10 s11 s12 : Sl} : stC 13 (.ow d) (s0 :: s1 :: s2 :: s3 :: s4 :: s5 :: s6 :: s7 :: s8 :: s9 :: s10 :: s11 :: s12 :: .no :: g) kT = kT (s0 :: s1 :: s2 :: s3 :: s4 :: s5 :: s6 :: s7 :: s8 :: s9 :: s10 :: s11 :: s12 :: .ow d :: g) := rfl
@[simp ↓] theorem s13shsh {s0 s1 s2 s3 s4 s5 s6 s7 s8 s9 s10 s11 s12 : Sl} : stC 13 (.sh d) (s0 :: s1 :: s2 :: s3 :: s4 :: s5 :: s6 :: s7 :: s8 :: s9 :: s10 :: s11 :: s12 :: .sh e :: g) kT = kT (s0 :: s1 :: s2 :: s3 :: s4 :: s5 :: s6 :: s7 :: s8 :: s9 :: s10 :: s11 :: s12 :: .sh d :: g) := rfl
@[simp ↓] theorem s13show {s0 s1 s2 s3 s4 s5 s6 s7 s8 s9 s10 s11 s12 : Sl} : stC 13 (.ow d) (s0 :: s1 :: s2 :: s3 :: s4 :: s5 :: s6 :: s7 :: s8 :: s9 :: s10 :: s11 :: s12 :: .sh e :: g) kT = kT (s0 :: s1 :: s2 :: s3 :: s4 :: s5 :: s6 :: s7 :: s8 :: s9 :: s10 :: s11 :: s12 :: .ow d :: g) := rfl
@[simp ↓] theorem s13owsh {s0 s1 s2 s3 s4 s5 s6 s7 s8 s9 s10 s11 s12 : Sl} : stC 13 (.sh d) (s0 :: s1 :: s2 :: s3 :: s4 :: s5 :: s6 :: s7 :: s8 :: s9 :: s10 :: s11 :: s12 :: .ow e :: g) kT = kT (s0 :: s1 :: s2 :: s3 :: s4 :: s5 :: s6 :: s7 :: s8 :: s9 :: s10 :: s11 :: s12 :: .sh d :: g) := rfl
@[simp ↓] theorem s13owow {s0 s1 s2 s3 s4 s5 s6 s7 s8 s9 s10 s11 s12 : Sl} : stC 13 (.ow d) (s0 :: s1 :: s2 :: s3 :: s4 :: s5 :: s6 :: s7 :: s8 :: s9 :: s10 :: s11 :: s12 :: .ow e :: g) kT = kT (s0 :: s1 :: s2 :: s3 :: s4 :: s5 :: s6 :: s7 :: s8 :: s9 :: s10 :: s11 :: s12 :: .ow d :: g) := rfl
@[simp ↓] theorem rv13sh {s0 s1 s2 s3 s4 s5 s6 s7 s8 s9 s10 s11 s12 : Sl} : retV 13 (s0 :: s1 :: s2 :: s3 :: s4 :: s5 :: s6 :: s7 :: s8 :: s9 :: s10 :: s11 :: s12 :: .sh d :: g) kT = .ret (.sh d) (s0 :: s1 :: s2 :: s3 :: s4 :: s5 :: s6 :: s7 :: s8 :: s9 :: s10 :: s11 :: s12 :: .sh d :: g) := rfl
@[simp ↓] theorem rv13ow {s0 s1 s2 s3 s4 s5 s6 s7 s8 s9 s10 s11 s12 : Sl} : retV 13 (s0 :: s1 :: s2 :: s3 :: s4 :: s5 :: s6 :: s7 :: s8 :: s9 :: s10 :: s11 :: s12 :: .ow d :: g) kT = .ret (.ow d) (s0 :: s1 :: s2 :: s3 :: s4 :: s5 :: s6 :: s7 :: s8 :: s9 :: s10 :: s11 :: s12 :: .no :: g) := rfl
@[simp ↓] theorem b14sh {s0 s1 s2 s3 s4 s5 s6 s7 s8 s9 s10 s11 s12 s13 : Sl} : borC 14 (s0 :: s1 :: s2 :: s3 :: s4 :: s5 :: s6 :: s7 :: s8 :: s9 :: s10 :: s11 :: s12 :: s13 :: .sh d :: g) k = k d (s0 :: s1 :: s2 :: s3 :: s4 :: s5 :: s6 :: s7 :: s8 :: s9 :: s10 :: s11 :: s12 :: s13 :: .sh d :: g) := rfl
@[simp ↓] theorem b14ow {s0 s1 s2 s3 s4 s5 s6 s7 s8 s9 s10 s11 s12 s13 : Sl} : borC 14 (s0 :: s1 :: s2 :: s3 :: s4 :: s5 :: s6 :: s7 :: s8 :: s9 :: s10 :: s11 :: s12 :: s13 :: .ow d :: g) k = k d (s0 :: s1 :: s2 :: s3 :: s4 :: s5 :: s6 :: s7 :: s8 :: s9 :: s10 :: s11 :: s12 :: s13 :: .ow d :: g) := rfl
@[simp ↓] theorem b14rf {s0 s1 s2 s3 s4 s5 s6 s7 s8 s9 s10 s11 s12 s13 : Sl} : borC 14 (s0 :: s1 :: s2 :: s3 :: s4 :: s5 :: s6 :: s7 :: s8 :: s9 :: s10 :: s11 :: s12 :: s13 :: .rf d :: g) k = k d (s0 :: s1 :: s2 :: s3 :: s4 :: s5 :: s6 :: s7 :: s8 :: s9 :: s10 :: s11 :: s12 :: s13 :: .rf d :: g) := rfl
@[simp ↓] theorem v14sh {s0 s1 s2 s3 s4 s5 s6 s7 s8 s9 s10 s11 s12 s13 : Sl} : varC 14 (s0 :: s1 :: s2 :: s3 :: s4 :: s5 :: s6 :: s7 :: s8 :: s9 :: s10 :: s11 :: s12 :: s13 :: .sh d :: g) k = k d (s0 :: s1 :: s2 :: s3 :: s4 :: s5 :: s6 :: s7 :: s8 :: s9 :: s10 :: s11 :: s12 :: s13 :: .sh d :: g) := rfl
@[simp ↓] theorem v14ow {s0 s1 s2 s3 s4 s5 s6 s7 s8 s9 s10 s11 s12 s13 : Sl} : varC 14 (s0 :: s1 :: s2 :: s3 :: s4 :: s5 :: s6 :: s7 :: s8 :: s9 :: s10 :: s11 :: s12 :: s13 :: .ow d :: g) k = k d (s0 :: s1 :: s2 :: s3 :: s4 :: s5 :: s6 :: s7 :: s8 :: s9 :: s10 :: s11 :: s12 :: s13 :: .sh d :: g) := rfl
@[simp ↓] theorem s14nosh {s0 s1 s2 s3 s4 s5 s6 s7 s8 s9 s10 s11 s12 s13 : Sl} : stC 14 (.sh d) (s0 :: s1 :: s2 :: s3 :: s4 :: s5 :: s6 :: s7 :: s8 :: s9 :: s10 :: s11 :: s12 :: s13 :: .no :: g) kT = kT (s0 :: s1 :: s2 :: s3 :: s4 :: s5 :: s6 :: s7 :: s8 :: s9 :: s10 :: s11 :: s12 :: s13 :: .sh d :: g) := rfl
@[simp ↓] theorem s14noow {s0 s1 s2 s3 s4 s5 s6 s7 s8 s9 s10 s11 s12 s13 : Sl} : stC 14 (.ow d) (s0 :: s1 :: s2 :: s3 :: s4 :: s5 :: s6 :: s7 :: s8 :: s9 :: s10 :: s11 :: s12 :: s13 :: .no :: g) kT = kT (s0 :: s1 :: s2 :: s3 :: s4 :: s5 :: s6 :: s7 :: s8 :: s9 :: s10 :: s11 :: s12 :: s13 :: .ow d :: g) := rfl
@[simp ↓] theorem s14shsh {s0 s1 s2 s3 s4 s5 s6 s7 s8 s9 s10 s11 s12 s13 : Sl} : stC 14 (.sh d) (s0 :: s1 :: s2 :: s3 :: s4 :: s5 :: s6 :: s7 :: s8 :: s9 :: s10 :: s11 :: s12 :: s13 :: .sh e :: g) kT = kT (s0 :: s1 :: s2 :: s3 :: s4 :: s5 :: s6 :: s7 :: s8 :: s9 :: s10 :: s11 :: s12 :: s13 :: .sh d :: g) := rfl
@[simp ↓] theorem s14show {s0 s1 s2 s3 s4 s5 s6 s7 s8 s9 s10 s11 s12 s13 : Sl} : stC 14 (.ow d) (s0 :: s1 :: s2 :: s3 :: s4 :: s5 :: s6 :: s7 :: s8 :: s9 :: s10 :: s11 :: s12 :: s13 :: .sh e :: g) kT = kT (s0 :: s1 :: s2 :: s3 :: s4 :: s5 :: s6 :: s7 :: s8 :: s9 :: s10 :: s11 :: s12 :: s13 :: .ow d :: g) := rfl
@[simp ↓] theorem s14owsh {s0 s1 s2 s3 s4 s5 s6 s7 s8 s9 s10 s11 s12 s13 : Sl} : stC 14 (.sh d) (s0 :: s1 :: s2 :: s3 :: s4 :: s5 :: s6 :: s7 :: s8 :: s9 :: s10 :: s11 :: s12 :: s13 :: .ow e :: g) kT = kT (s0 :: s1 :: s2 :: s3 :: s4 :: s5 :: s6 :: s7 :: s8 :: s9 :: s10 :: s11 :: s12 :: s13 :: .sh d :: g) := rfl
@[simp ↓] theorem s14owow {s0 s1 s2 s3 s4 s5 s6 s7 s8 s9 s10 s11 s12 s13 : Sl} : stC 14 (.ow d) (s0 :: s1 :: s2 :: s3 :: s4 :: s5 :: s6 :: s7 :: s8 :: s9 :: s10 :: s11 :: s12 :: s13 :: .ow e :: g) kT = kT (s0 :: s1 :: s2 :: s3 :: s4 :: s5 :: s6 :: s7 :: s8 :: s9 :: s10 :: s11 :: s12 :: s13 :: .ow d :: g) := rfl
@[simp ↓] theorem rv14sh {s0 s1 s2 s3 s4 s5 s6 s7 s8 s9 s10 s11 s12 s13 : Sl} : retV 14 (s0 :: s1 :: s2 :: s3 :: s4 :: s5 :: s6 :: s7 :: s8 :: s9 :: s10 :: s11 :: s12 :: s13 :: .sh d :: g) kT = .ret (.sh d) (s0 :: s1 :: s2 :: s3 :: s4 :: s5 :: s6 :: s7 :: s8 :: s9 :: s10 :: s11 :: s12 :: s13 :: .sh d :: g) := rfl
@[simp ↓] theorem rv14ow {s0 s1 s2 s3 s4 s5 s6 s7 s8 s9 s10 s11 s12 s13 : Sl} : retV 14 (s0 :: s1 :: s2 :: s3 :: s4 :: s5 :: s6 :: s7 :: s8 :: s9 :: s10 :: s11 :: s12 :: s13 :: .ow d :: g) kT = .ret (.ow d) (s0 :: s1 :: s2 :: s3 :: s4 :: s5 :: s6 :: s7 :: s8 :: s9 :: s10 :: s11 :: s12 :: s13 :: .no :: g) := rfl
@[simp ↓] theorem b15sh {s0 s1 s2 s3 s4 s5 s6 s7 s8 s9 s10 s11 s12 s13 s14 : Sl} : borC 15 (s0 :: s1 :: s2 :: s3 :: s4 :: s5 :: s6 :: s7 :: s8 :: s9 :: s10 :: s11 :: s12 :: s13 :: s14 :: .sh d :: g) k = k d (s0 :: s1 :: s2 :: s3 :: s4 :: s5 :: s6 :: s7 :: s8 :: s9 :: s10 :: s11 :: s12 :: s13 :: s14 :: .sh d :: g) := rfl
@[simp ↓] theorem b15ow {s0 s1 s2 s3 s4 s5 s6 s7 s8 s9 s10 s11 s12 s13 s14 : Sl} : borC 15 (s0 :: s1 :: s2 :: s3 :: s4 :: s5 :: s6 :: s7 :: s8 :: s9 :: s10 :: s11 :: s12 :: s13 :: s14 :: .ow d :: g) k = k d (s0 :: s1 :: s2 :: s3 :: s4 :: s5 :: s6 :: s7 :: s8 :: s9 :: s10 :: s11 :: s12 :: s13 :: s14 :: .ow d :: g) := rfl
@[simp ↓] theorem b15rf {s0 s1 s2 s3 s4 s5 s6 s7 s8 s9 s10 s11 s12 s13 s14 : Sl} : borC 15 (s0 :: s1 :: s2 :: s3 :: s4 :: s5 :: s6 :: s7 :: s8 :: s9 :: s10 :: s11 :: s12 :: s13 :: s14 :: .rf d :: g) k = k d (s0 :: s1 :: s2 :: s3 :: s4 :: s5 :: s6 :: s7 :: s8 :: s9 :: s10 :: s11 :: s12 :: s13 :: s14 :: .rf d :: g) := rfl
@[simp ↓] theorem v15sh {s0 s1 s2 s3 s4 s5 s6 s7 s8 s9 s10 s11 s12 s13 s14 : Sl} : varC 15 (s0 :: s1 :: s2 :: s3 :: s4 :: s5 :: s6 :: s7 :: s8 :: s9 :: s10 :: s11 :: s12 :: s13 :: s14 :: .sh d :: g) k = k d (s0 :: s1 :: s2 :: s3 :: s4 :: s5 :: s6 :: s7 :: s8 :: s9 :: s10 :: s11 :: s12 :: s13 :: s14 :: .sh d :: g) := rfl
@[simp ↓] theorem v15ow {s0 s1 s2 s3 s4 s5 s6 s7 s8 s9 s10 s11 s12 s13 s14 : Sl} : varC 15 (s0 :: s1 :: s2 :: s3 :: s4 :: s5 :: s6 :: s7 :: s8 :: s9 :: s10 :: s11 :: s12 :: s13 :: s14 :: .ow d :: g) k = k d (s0 :: s1 :: s2 :: s3 :: s4 :: s5 :: s6 :: s7 :: s8 :: s9 :: s10 :: s11 :: s12 :: s13 :: s14 :: .sh d :: g) := rfl
@[simp ↓] theorem s15nosh {s0 s1 s2 s3 s4 s5 s6 s7 s8 s9 s10 s11 s12 s13 s14 : Sl} : stC 15 (.sh d) (s0 :: s1 :: s2 :: s3 :: s4 :: s5 :: s6 :: s7 :: s8 :: s9 :: s10 :: s11 :: s12 :: s13 :: s14 :: .no :: g) kT = kT (s0 :: s1 :: s2 :: s3 :: s4 :: s5 :: s6 :: s7 :: s8 :: s9 :: s10 :: s11 :: s12 :: s13 :: s14 :: .sh d :: g) := rfl
@[simp ↓] theorem s15noow {s0 s1 s2 s3 s4 s5 s6 s7 s8 s9 s10 s11 s12 s13 s14 : Sl} : stC 15 (.ow d) (s0 :: s1 :: s2 :: s3 :: s4 :: s5 :: s6 :: s7 :: s8 :: s9 :: s10 :: s11 :: s12 :: s13 :: s14 :: .no :: g) kT = kT (s0 :: s1 :: s2 :: s3 :: s4 :: s5 :: s6 :: s7 :: s8 :: s9 :: s10 :: s11 :: s12 :: s13 :: s14 :: .ow d :: g) := rfl
@[simp ↓] theorem s15shsh {s0 s1 s2 s3 s4 s5 s6 s7 s8 s9 s10 s11 s12 s13 s14 : Sl} : stC 15 (.sh d) (s0 :: s1 :: s2 :: s3 :: s4 :: s5 :: s6 :: s7 :: s8 :: s9 :: s10 :: s11 :: s12 :: s13 :: s14 :: .sh e :: g) kT = kT (s0 :: s1 :: s2 :: s3 :: s4 :: s5 :: s6 :: s7 :: s8 :: s9 :: s10 :: s11 :: s12 :: s13 :: s14 :: .sh d :: g) := rfl
@[simp ↓] theorem s15show {s0 s1 s2 s3 s4 s5 s6 s7 s8 s9 s10 s11 s12 s13 s14 : Sl} : stC 15 (.ow d) (s0 :: s1 :: s2 :: s3 :: s4 :: s5 :: s6 :: s7 :: s8 :: s9 :: s10 :: s11 :: s12 :: s13 :: s14 :: .sh e :: g) kT = kT (s0 :: s1 :: s2 :: s3 :: s4 :: s5 :: s6 :: s7 :: s8 :: s9 :: s10 :: s11 :: s12 :: s13 :: s14 :: .ow d :: g) := rfl
@[simp ↓] theorem s15owsh {s0 s1 s2 s3 s4 s5 s6 s7 s8 s9 s10 s11 s12 s13 s14 : Sl} : stC 15 (.sh d) (s0 :: s1 :: s2 :: s3 :: s4 :: s5 :: s6 :: s7 :: s8 :: s9 :: s10 :: s11 :: s12 :: s13 :: s14 :: .ow e :: g) kT = kT (s0 :: s1 :: s2 :: s3 :: s4 :: s5 :: s6 :: s7 :: s8 :: s9 :: s10 :: s11 :: s12 :: s13 :: s14 :: .sh d :: g) := rfl
@[simp ↓] theorem s15owow {s0 s1 s2 s3 s4 s5 s6 s7 s8 s9 s10 s11 s12 s13 s14 : Sl} : stC 15 (.ow d) (s0 :: s1 :: s2 :: s3 :: s4 :: s5 :: s6 :: s7 :: s8 :: s9 :: s10 :: s11 :: s12 :: s13 :: s14 :: .ow e :: g) kT = kT (s0 :: s1 :: s2 :: s3 :: s4 :: s5 :: s6 :: s7 :: s8 :: s9 :: s10 :: s11 :: s12 :: s13 :: s14 :: .ow d :: g) := rfl
@[simp ↓] theorem rv15sh {s0 s1 s2 s3 s4 s5 s6 s7 s8 s9 s10 s11 s12 s13 s14 : Sl} : retV 15 (s0 :: s1 :: s2 :: s3 :: s4 :: s5 :: s6 :: s7 :: s8 :: s9 :: s10 :: s11 :: s12 :: s13 :: s14 :: .sh d :: g) kT = .ret (.sh d) (s0 :: s1 :: s2 :: s3 :: s4 :: s5 :: s6 :: s7 :: s8 :: s9 :: s10 :: s11 :: s12 :: s13 :: s14 :: .sh d :: g) := rfl
@[simp ↓] theorem rv15ow {s0 s1 s2 s3 s4 s5 s6 s7 s8 s9 s10 s11 s12 s13 s14 : Sl} : retV 15 (s0 :: s1 :: s2 :: s3 :: s4 :: s5 :: s6 :: s7 :: s8 :: s9 :: s10 :: s11 :: s12 :: s13 :: s14 :: .ow d :: g) kT = .ret (.ow d) (s0 :: s1 :: s2 :: s3 :: s4 :: s5 :: s6 :: s7 :: s8 :: s9 :: s10 :: s11 :: s12 :: s13 :: s14 :: .no :: g) := rfl
@[simp] theorem in_int_none  : instOf "int" .none = false := by simp [instOf]
@[simp] theorem in_int_bool {b : Bool} : instOf "int" (.bool b) = true := by simp [instOf]
@[simp] theorem in_int_int {x : Int} : instOf "int" (.int x) = true := by simp [instOf]
@[simp] theorem in_int_str {z : Str} : instOf "int" (.str z) = false := by simp [instOf]
@[simp] theorem in_int_list {l : List D} : instOf "int" (.list l) = false := by simp [instOf]
@[simp] theorem in_int_tuple {l : List D} : instOf "int" (.tuple l) = false := by simp [instOf]
@[simp] theorem in_int_dict {l2 : List (D × D)} : instOf "int" (.dict l2) = false := by simp [instOf]
@[simp] theorem in_bool_none  : instOf "bool" .none = false := by simp [instOf]
@[simp] theorem in_bool_bool {b : Bool} : instOf "bool" (.bool b) = true := by simp [instOf]
@[simp] theorem in_bool_int {x : Int} : instOf "bool" (.int x) = false := by simp [instOf]
@[simp] theorem in_bool_str {z : Str} : instOf "bool" (.str z) = false := by simp [instOf]
@[simp] theorem in_bool_list {l : List D} : instOf "bool" (.list l) = false := by simp [instOf]
@[simp] theorem in_bool_tuple {l : List D} : instOf "bool" (.tuple l) = false := by simp [instOf]
@[simp] theorem in_bool_dict {l2 : List (D × D)} : instOf "bool" (.dict l2) = false := by simp [instOf]
@[simp] theorem in_str_none  : instOf "str" .none = false := by simp [instOf]
@[simp] theorem in_str_bool {b : Bool} : instOf "str" (.bool b) = false := by simp [instOf]
@[simp] theorem in_str_int {x : Int} : instOf "str" (.int x) = false := by simp [instOf]
@[simp] theorem in_str_str {z : Str} : instOf "str" (.str z) = true := by simp [instOf]
@[simp] theorem in_str_list {l : List D} : instOf "str" (.list l) = false := by simp [instOf]
@[simp] theorem in_str_tuple {l : List D} : instOf "str" (.tuple l) = false := by simp [instOf]
@[simp] theorem in_str_dict {l2 : List (D × D)} : instOf "str" (.dict l2) = false := by simp [instOf]
@[simp] theorem in_list_none  : instOf "list" .none = false := by simp [instOf]
@[simp] theorem in_list_bool {b : Bool} : instOf "list" (.bool b) = false := by simp [instOf]
@[simp] theorem in_list_int {x : Int} : instOf "list" (.int x) = false := by simp [instOf]
@[simp] theorem in_list_str {z : Str} : instOf "list" (.str z) = false := by simp [instOf]
@[simp] theorem in_list_list {l : List D} : instOf "list" (.list l) = true := by simp [instOf]
@[simp] theorem in_list_tuple {l : List D} : instOf "list" (.tuple l) = false := by simp [instOf]
@[simp] theorem in_list_dict {l2 : List (D × D)} : instOf "list" (.dict l2) = false := by simp [instOf]
@[simp] theorem in_tuple_none  : instOf "tuple" .none = false := by simp [instOf]
@[simp] theorem in_tuple_bool {b : Bool} : instOf "tuple" (.bool b) = false := by simp [instOf]
@[simp] theorem in_tuple_int {x : Int} : instOf "tuple" (.int x) = false := by simp [instOf]
@[simp] theorem in_tuple_str {z : Str} : instOf "tuple" (.str z) = false := by simp [instOf]
@[simp] theorem in_tuple_list {l : List D} : instOf "tuple" (.list l) = false := by simp [instOf]
@[simp] theorem in_tuple_tuple {l : List D} : instOf "tuple" (.tuple l) = true := by simp [instOf]
@[simp] theorem in_tuple_dict {l2 : List (D × D)} : instOf "tuple" (.dict l2) = false := by simp [instOf]
@[simp] theorem in_dict_none  : instOf "dict" .none = false := by simp [instOf]
@[simp] theorem in_dict_bool {b : Bool} : instOf "dict" (.bool b) = false := by simp [instOf]
@[simp] theorem in_dict_int {x : Int} : instOf "dict" (.int x) = false := by simp [instOf]
@[simp] theorem in_dict_str {z : Str} : instOf "dict" (.str z) = false := by simp [instOf]
@[simp] theorem in_dict_list {l : List D} : instOf "dict" (.list l) = false := by simp [instOf]
@[simp] theorem in_dict_tuple {l : List D} : instOf "dict" (.tuple l) = false := by simp [instOf]
@[simp] theorem in_dict_dict {l2 : List (D × D)} : instOf "dict" (.dict l2) = true := by simp [instOf]
@[simp] theorem inst_1 {s : String} {d : D} : instAny [s] d = instOf s d := by simp [instAny]
@[simp] theorem inst_2 {s t : String} {d : D} : instAny [s, t] d = (instOf s d || instOf t d) := by simp [instAny]
def rcK (i : Nat) (φ : Fd) (ds : List D) (g : Gam) (k : KS) : R := match owOf g[i]? with
  | some d0 => match φ (d0 :: ds) with
    | .ok s [d1] => k s (stTo g i d1)
    | _ => .err
  | none => .err
def muK (i : Nat) (op : List D → List D → Option (D × List D)) (as : List D) (g : Gam) (k : KD) : R := match lstOf g[i]? with
  | some ds => match op ds as with
    | some (d, ds') => k d (stTo g i (.list ds'))
    | none => .err
  | none => .err
def puK (i : Nat) (d : D) (j : D) (g : Gam) (k : Gam → R) : R := match lstOf g[i]?, j with
  | some ds, .int n => match ixN ds.length n with
    | some m => k (stTo g i (.list (ds.set m d)))
    | none => .err
  | _, _ => .err
def setK (ds : List D) (n : Int) (d : D) (k : List D → R) : R := match ixN ds.length n with
  | some m => k (ds.set m d)
  | none => .err
def auK (i : Nat) (f : Int → Int → Int) (n : Int) (x : Int) (y : D) (g : Gam) (k : Gam → R) : R := match lstOf g[i]?, y with
  | some ds2, .int y => match ixN ds2.length n with
    | some m2 => k (stTo g i (.list (ds2.set m2 (.int (f x y)))))
    | none => .err
  | _, _ => .err
def auJ (i : Nat) (fe : DnD) (f : Int → Int → Int) (j : D) (g1 : Gam) (k : Gam → R) : R := match lstOf g1[i]?, j with
    | some ds, .int n => match ixN ds.length n with
      | some m => match ds[m]? with
        | some (.int x) => fe g1 fun y g2 => auK i f n x y g2 k
        | _ => .err
      | none => .err
    | _, _ => .err
def augK (ds : List D) (n : Int) (k : Int → R) : R := match ixN ds.length n with
  | some m => match ds[m]? with
    | some (.int x) => k x
    | _ => .err
  | none => .err
@[simp ↓] theorem rc0ow  {φ : Fd} : callRC 0 φ fs (.ow d :: g) kS = fs (.ow d :: g) fun ds g' => rcK 0 φ ds g' kS := rfl
@[simp ↓] theorem rk0ow  {φ : Fd} {ds : List D} : rcK 0 φ ds (.ow d :: g) kS = okR1 (φ (d :: ds)) fun s d1 => kS s (.ow d1 :: g) := by
  show (match φ (d :: ds) with | .ok s [d1] => _ | _ => _) = _
  unfold okR1; split <;> rfl
@[simp ↓] theorem mu0ow  {op : List D → List D → Option (D × List D)} {ds : List D} : mutC 0 fs op (.ow (.list ds) :: g) k = fs (.ow (.list ds) :: g) fun as g' => muK 0 op as g' k := rfl
@[simp ↓] theorem mk0ow  {op : List D → List D → Option (D × List D)} {as ds : List D} : muK 0 op as (.ow (.list ds) :: g) k = mutK (op ds as) fun r ds' => k r (.ow (.list ds') :: g) := by
  show (match op ds as with | some (d, ds') => _ | none => _) = _
  unfold mutK; split <;> rfl
@[simp ↓] theorem pu0ow  {ds : List D} : putC 0 fi d (.ow (.list ds) :: g) kT = fi (.ow (.list ds) :: g) fun j g' => puK 0 d j g' kT := rfl
@[simp ↓] theorem pk0ow  {ds : List D} {n : Int} : puK 0 d (.int n) (.ow (.list ds) :: g) kT = setK ds n d fun ds' => kT (.ow (.list ds') :: g) := by
  show (match ixN ds.length n with | some m => _ | none => _) = _
  unfold setK; split <;> rfl
@[simp ↓] theorem au0ow  {ds : List D} {f : Int → Int → Int} : augT 0 fi fe f (.ow (.list ds) :: g) kT = fi (.ow (.list ds) :: g) fun j g' => auJ 0 fe f j g' kT := rfl
@[simp ↓] theorem aj0ow  {ds : List D} {f : Int → Int → Int} {n : Int} : auJ 0 fe f (.int n) (.ow (.list ds) :: g) kT = augK ds n fun x => fe (.ow (.list ds) :: g) fun y g2 => auK 0 f n x y g2 kT := by
  show (match ixN ds.length n with | some m => _ | none => _) = _
  unfold augK; split <;> rfl
@[simp ↓] theorem ak0ow  {ds : List D} {f : Int → Int → Int} {n x y : Int} : auK 0 f n x (.int y) (.ow (.list ds) :: g) kT = setK ds n (.int (f x y)) fun ds' => kT (.ow (.list ds') :: g) := by
  show (match ixN ds.length n with | some m => _ | none => _) = _
  unfold setK; split <;> rfl
@[simp ↓] theorem rc0rf  {φ : Fd} : callRC 0 φ fs (.rf d :: g) kS = fs (.rf d :: g) fun ds g' => rcK 0 φ ds g' kS := rfl
@[simp ↓] theorem rk0rf  {φ : Fd} {ds : List D} : rcK 0 φ ds (.rf d :: g) kS = okR1 (φ (d :: ds)) fun s d1 => kS s (.rf d1 :: g) := by
  show (match φ (d :: ds) with | .ok s [d1] => _ | _ => _) = _
  unfold okR1; split <;> rfl
@[simp ↓] theorem mu0rf  {op : List D → List D → Option (D × List D)} {ds : List D} : mutC 0 fs op (.rf (.list ds) :: g) k = fs (.rf (.list ds) :: g) fun as g' => muK 0 op as g' k := rfl
@[simp ↓] theorem mk0rf  {op : List D → List D → Option (D × List D)} {as ds : List D} : muK 0 op as (.rf (.list ds) :: g) k = mutK (op ds as) fun r ds' => k r (.rf (.list ds') :: g) := by
  show (match op ds as with | some (d, ds') => _ | none => _) = _
  unfold mutK; split <;> rfl
@[simp ↓] theorem pu0rf  {ds : List D} : putC 0 fi d (.rf (.list ds) :: g) kT = fi (.rf (.list ds) :: g) fun j g' => puK 0 d j g' kT := rfl
@[simp ↓] theorem pk0rf  {ds : List D} {n : Int} : puK 0 d (.int n) (.rf (.list ds) :: g) kT = setK ds n d fun ds' => kT (.rf (.list ds') :: g) := by
  show (match ixN ds.length n with | some m => _ | none => _) = _
  unfold setK; split <;> rfl
@[simp ↓] theorem au0rf  {ds : List D} {f : Int → Int → Int} : augT 0 fi fe f (.rf (.list ds) :: g) kT = fi (.rf (.list ds) :: g) fun j g' => auJ 0 fe f j g' kT := rfl
@[simp ↓] theorem aj0rf  {ds : List D} {f : Int → Int → Int} {n : Int} : auJ 0 fe f (.int n) (.rf (.list ds) :: g) kT = augK ds n fun x => fe (.rf (.list ds) :: g) fun y g2 => auK 0 f n x y g2 kT := by
  show (match ixN ds.length n with | some m => _ | none => _) = _
  unfold augK; split <;> rfl
@[simp ↓] theorem ak0rf  {ds : List D} {f : Int → Int → Int} {n x y : Int} : auK 0 f n x (.int y) (.rf (.list ds) :: g) kT = setK ds n (.int (f x y)) fun ds' => kT (.rf (.list ds') :: g) := by
  show (match ixN ds.length n with | some m => _ | none => _) = _
  unfold setK; split <;> rfl
@[simp ↓] theorem ag0  {f : Int → Int → Int} {x : Int} : augN 0 fe f (.sh (.int x) :: g) kT = fe (.sh (.int x) :: g) fun y g' => kopO (intO y) g' fun y g' => stC 0 (.sh (.int (f x y))) g' kT := by
  show (fe _ _) = _
  congr 1; funext y g'; cases y <;> rfl
@[simp ↓] theorem rc1ow {s0 : Sl} {φ : Fd} : callRC 1 φ fs (s0 :: .ow d :: g) kS = fs (s0 :: .ow d :: g) fun ds g' => rcK 1 φ ds g' kS := rfl
@[simp ↓] theorem rk1ow {s0 : Sl} {φ : Fd} {ds : List D} : rcK 1 φ ds (s0 :: .ow d :: g) kS = okR1 (φ (d :: ds)) fun s d1 => kS s (s0 :: .ow d1 :: g) := by
  show (match φ (d :: ds) with | .ok s [d1] => _ | _ => _) = _
  unfold okR1; split <;> rfl
@[simp ↓] theorem mu1ow {s0 : Sl} {op : List D → List D → Option (D × List D)} {ds : List D} : mutC 1 fs op (s0 :: .ow (.list ds) :: g) k = fs (s0 :: .ow (.list ds) :: g) fun as g' => muK 1 op as g' k := rfl
@[simp ↓] theorem mk1ow {s0 : Sl} {op : List D → List D → Option (D × List D)} {as ds : List D} : muK 1 op as (s0 :: .ow (.list ds) :: g) k = mutK (op ds as) fun r ds' => k r (s0 :: .ow (.list ds') :: g) := by
  show (match op ds as with | some (d, ds') => _ | none => _) = _
  unfold mutK; split <;> rfl
@[simp ↓] theorem pu1ow {s0 : Sl} {ds : List D} : putC 1 fi d (s0 :: .ow (.list ds) :: g) kT = fi (s0 :: .ow (.list ds) :: g) fun j g' => puK 1 d j g' kT := rfl
@[simp ↓] theorem pk1ow {s0 : Sl} {ds : List D} {n : Int} : puK 1 d (.int n) (s0 :: .ow (.list ds) :: g) kT = setK ds n d fun ds' => kT (s0 :: .ow (.list ds') :: g) := by
  show (match ixN ds.length n with | some m => _ | none => _) = _
  unfold setK; split <;> rfl
@[simp ↓] theorem au1ow {s0 : Sl} {ds : List D} {f : Int → Int → Int} : augT 1 fi fe f (s0 :: .ow (.list ds) :: g) kT = fi (s0 :: .ow (.list ds) :: g) fun j g' => auJ 1 fe f j g' kT := rfl
@[simp ↓] theorem aj1ow {s0 : Sl} {ds : List D} {f : Int → Int → Int} {n : Int} : auJ 1 fe f (.int n) (s0 :: .ow (.list ds) :: g) kT = augK ds n fun x => fe (s0 :: .ow (.list ds) :: g) fun y g2 => auK 1 f n x y g2 kT := by
  show (match ixN ds.length n with | some m => _ | none => _) = _
  unfold augK; split <;> rfl
@[simp ↓] theorem ak1ow {s0 : Sl} {ds : List D} {f : Int → Int → Int} {n x y : Int} : auK 1 f n x (.int y) (s0 :: .ow (.list ds) :: g) kT = setK ds n (.int (f x y)) fun ds' => kT (s0 :: .ow (.list ds') :: g) := by
  show (match ixN ds.length n with | some m => _ | none => _) = _
  unfold setK; split <;> rfl
@[simp ↓] theorem rc1rf {s0 : Sl} {φ : Fd} : callRC 1 φ fs (s0 :: .rf d :: g) kS = fs (s0 :: .rf d :: g) fun ds g' => rcK 1 φ ds g' kS := rfl
@[simp ↓] theorem rk1rf {s0 : Sl} {φ : Fd} {ds : List D} : rcK 1 φ ds (s0 :: .rf d :: g) kS = okR1 (φ (d :: ds)) fun s d1 => kS s (s0 :: .rf d1 :: g) := by
  show (match φ (d :: ds) with | .ok s [d1] => _ | _ => _) = _
  unfold okR1; split <;> rfl
@[simp ↓] theorem mu1rf {s0 : Sl} {op : List D → List D → Option (D × List D)} {ds : List D} : mutC 1 fs op (s0 :: .rf (.list ds) :: g) k = fs (s0 :: .rf (.list ds) :: g) fun as g' => muK 1 op as g' k := rfl
@[simp ↓] theorem mk1rf {s0 : Sl} {op : List D → List D → Option (D × List D)} {as ds : List D} : muK 1 op as (s0 :: .rf (.list ds) :: g) k = mutK (op ds as) fun r ds' => k r (s0 :: .rf (.list ds') :: g) := by
  show (match op ds as with | some (d, ds') => _ | none => _) = _
  unfold mutK; split <;> rfl
@[simp ↓] theorem pu1rf {s0 : Sl} {ds : List D} : putC 1 fi d (s0 :: .rf (.list ds) :: g) kT = fi (s0 :: .rf (.list ds) :: g) fun j g' => puK 1 d j g' kT := rfl
@[simp ↓] theorem pk1rf {s0 : Sl} {ds : List D} {n : Int} : puK 1 d (.int n) (s0 :: .rf (.list ds) :: g) kT = setK ds n d fun ds' => kT (s0 :: .rf (.list ds') :: g) := by
  show (match ixN ds.length n with | some m => _ | none => _) = _
  unfold setK; split <;> rfl
@[simp ↓] theorem au1rf {s0 : Sl} {ds : List D} {f : Int → Int → Int} : augT 1 fi fe f (s0 :: .rf (.list ds) :: g) kT = fi (s0 :: .rf (.list ds) :: g) fun j g' => auJ 1 fe f j g' kT := rfl
@[simp ↓] theorem aj1rf {s0 : Sl} {ds : List D} {f : Int → Int → Int} {n : Int} : auJ 1 fe f (.int n) (s0 :: .rf (.list ds) :: g) kT = augK ds n fun x => fe (s0 :: .rf (.list ds) :: g) fun y g2 => auK 1 f n x y g2 kT := by
  show (match ixN ds.length n with | some m => _ | none => _) = _
  unfold augK; split <;> rfl
@[simp ↓] theorem ak1rf {s0 : Sl} {ds : List D} {f : Int → Int → Int} {n x y : Int} : auK 1 f n x (.int y) (s0 :: .rf (.list ds) :: g) kT = setK ds n (.int (f x y)) fun ds' => kT (s0 :: .rf (.list ds') :: g) := by
  show (match ixN ds.length n with | some m => _ | none => _) = _
  unfold setK; split <;> rfl
@[simp ↓] theorem ag1 {s0 : Sl} {f : Int → Int → Int} {x : Int} : augN 1 fe f (s0 :: .sh (.int x) :: g) kT = fe (s0 :: .sh (.int x) :: g) fun y g' => kopO (intO y) g' fun y g' => stC 1 (.sh (.int (f x y))) g' kT := by
  show (fe _ _) = _
  congr 1; funext y g'; cases y <;> rfl
@[simp ↓] theorem rc2ow {s0 s1 : Sl} {φ : Fd} : callRC 2 φ fs (s0 :: s1 :: .ow d :: g) kS = fs (s0 :: s1 :: .ow d :: g) fun ds g' => rcK 2 φ ds g' kS := rfl
@[simp ↓] theorem rk2ow {s0 s1 : Sl} {φ : Fd} {ds : List D} : rcK 2 φ ds (s0 :: s1 :: .ow d :: g) kS = okR1 (φ (d :: ds)) fun s d1 => kS s (s0 :: s1 :: .ow d1 :: g) := by
  show (match φ (d :: ds) with | .ok s [d1] => _ | _ => _) = _
  unfold okR1; split <;> rfl
@[simp ↓] theorem mu2ow {s0 s1 : Sl} {op : List D → List D → Option (D × List D)} {ds : List D} : mutC 2 fs op (s0 :: s1 :: .ow (.list ds) :: g) k = fs (s0 :: s1 :: .ow (.list ds) :: g) fun as g' => muK 2 op as g' k := rfl
@[simp ↓] theorem mk2ow {s0 s1 : Sl} {op : List D → List D → Option (D × List D)} {as ds : List D} : muK 2 op as (s0 :: s1 :: .ow (.list ds) :: g) k = mutK (op ds as) fun r ds' => k r (s0 :: s1 :: .ow (.list ds') :: g) := by
  show (match op ds as with | some (d, ds') => _ | none => _) = _
  unfold mutK; split <;> rfl
@[simp ↓] theorem pu2ow {s0 s1 : Sl} {ds : List D} : putC 2 fi d (s0 :: s1 :: .ow (.list ds) :: g) kT = fi (s0 :: s1 :: .ow (.list ds) :: g) fun j g' => puK 2 d j g' kT := rfl
@[simp ↓] theorem pk2ow {s0 s1 : Sl} {ds : List D} {n : Int} : puK 2 d (.int n) (s0 :: s1 :: .ow (.list ds) :: g) kT = setK ds n d fun ds' => kT (s0 :: s1 :: .ow (.list ds') :: g) := by
  show (match ixN ds.length n with | some m => _ | none => _) = _
  unfold setK; split <;> rfl
@[simp ↓] theorem au2ow {s0 s1 : Sl} {ds : List D} {f : Int → Int → Int} : augT 2 fi fe f (s0 :: s1 :: .ow (.list ds) :: g) kT = fi (s0 :: s1 :: .ow (.list ds) :: g) fun j g' => auJ 2 fe f j g' kT := rfl
@[simp ↓] theorem aj2ow {s0 s1 : Sl} {ds : List D} {f : Int → Int → Int} {n : Int} : auJ 2 fe f (.int n) (s0 :: s1 :: .ow (.list ds) :: g) kT = augK ds n fun x => fe (s0 :: s1 :: .ow (.list ds) :: g) fun y g2 => auK 2 f n x y g2 kT := by
  show (match ixN ds.length n with | some m => _ | none => _) = _
  unfold augK; split <;> rfl
@[simp ↓] theorem ak2ow {s0 s1 : Sl} {ds : List D} {f : Int → Int → Int} {n x y : Int} : auK 2 f n x (.int y) (s0 :: s1 :: .ow (.list ds) :: g) kT = setK ds n (.int (f x y)) fun ds' => kT (s0 :: s1 :: .ow (.list ds') :: g) := by
  show (match ixN ds.length n with | some m => _ | none => _) = _
  unfold setK; split <;> rfl
@[simp ↓] theorem rc2rf {s0 s1 : Sl} {φ : Fd} : callRC 2 φ fs (s0 :: s1 :: .rf d :: g) kS = fs (s0 :: s1 :: .rf d :: g) fun ds g' => rcK 2 φ ds g' kS := rfl
@[simp ↓] theorem rk2rf {s0 s1 : Sl} {φ : Fd} {ds : List D} : rcK 2 φ ds (s0 :: s1 :: .rf d :: g) kS = okR1 (φ (d :: ds)) fun s d1 => kS s (s0 :: s1 :: .rf d1 :: g) := by
  show (match φ (d :: ds) with | .ok s [d1] => _ | _ => _) = _
  unfold okR1; split <;> rfl
@[simp ↓] theorem mu2rf {s0 s1 : Sl} {op : List D → List D → Option (D × List D)} {ds : List D} : mutC 2 fs op (s0 :: s1 :: .rf (.list ds) :: g) k = fs (s0 :: s1 :: .rf (.list ds) :: g) fun as g' => muK 2 op as g' k := rfl
@[simp ↓] theorem mk2rf {s0 s1 : Sl} {op : List D → List D → Option (D × List D)} {as ds : List D} : muK 2 op as (s0 :: s1 :: .rf (.list ds) :: g) k = mutK (op ds as) fun r ds' => k r (s0 :: s1 :: .rf (.list ds') :: g) := by
  show (match op ds as with | some (d, ds') => _ | none => _) = _
  unfold mutK; split <;> rfl
@[simp ↓] theorem pu2rf {s0 s1 : Sl} {ds : List D} : putC 2 fi d (s0 :: s1 :: .rf (.list ds) :: g) kT = fi (s0 :: s1 :: .rf (.list ds) :: g) fun j g' => puK 2 d j g' kT := rfl
@[simp ↓] theorem pk2rf {s0 s1 : Sl} {ds : List D} {n : Int} : puK 2 d (.int n) (s0 :: s1 :: .rf (.list ds) :: g) kT = setK ds n d fun ds' => kT (s0 :: s1 :: .rf (.list ds') :: g) := by
  show (match ixN ds.length n with | some m => _ | none => _) = _
  unfold setK; split <;> rfl
@[simp ↓] theorem au2rf {s0 s1 : Sl} {ds : List D} {f : Int → Int → Int} : augT 2 fi fe f (s0 :: s1 :: .rf (.list ds) :: g) kT = fi (s0 :: s1 :: .rf (.list ds) :: g) fun j g' => auJ 2 fe f j g' kT := rfl
@[simp ↓] theorem aj2rf {s0 s1 : Sl} {ds : List D} {f : Int → Int → Int} {n : Int} : auJ 2 fe f (.int n) (s0 :: s1 :: .rf (.list ds) :: g) kT = augK ds n fun x => fe (s0 :: s1 :: .rf (.list ds) :: g) fun y g2 => auK 2 f n x y g2 kT := by
  show (match ixN ds.length n with | some m => _ | none => _) = _
  unfold augK; split <;> rfl
@[simp ↓] theorem ak2rf {s0 s1 : Sl} {ds : List D} {f : Int → Int → Int} {n x y : Int} : auK 2 f n x (.int y) (s0 :: s1 :: .rf (.list ds) :: g) kT = setK ds n (.int (f x y)) fun ds' => kT (s0 :: s1 :: .rf (.list ds') :: g) := by
  show (match ixN ds.length n with | some m => _ | none => _) = _
  unfold setK; split <;> rfl
@[simp ↓] theorem ag2 {s0 s1 : Sl} {f : Int → Int → Int} {x : Int} : augN 2 fe f (s0 :: s1 :: .sh (.int x) :: g) kT = fe (s0 :: s1 :: .sh (.int x) :: g) fun y g' => kopO (intO y) g' fun y g' => stC 2 (.sh (.int (f x y))) g' kT := by
  show (fe _ _) = _
  congr 1; funext y g'; cases y <;> rfl
@[simp ↓] theorem rc3ow {s0 s1 s2 : Sl} {φ : Fd} : callRC 3 φ fs (s0 :: s1 :: s2 :: .ow d :: g) kS = fs (s0 :: s1 :: s2 :: .ow d :: g) fun ds g' => rcK 3 φ ds g' kS := rfl
@[simp ↓] theorem rk3ow {s0 s1 s2 : Sl} {φ : Fd} {ds : List D} : rcK 3 φ ds (s0 :: s1 :: s2 :: .ow d :: g) kS = okR1 (φ (d :: ds)) fun s d1 => kS s (s0 :: s1 :: s2 :: .ow d1 :: g) := by
  show (match φ (d :: ds) with | .ok s [d1] => _ | _ => _) = _
  unfold okR1; split <;> rfl
@[simp ↓] theorem mu3ow {s0 s1 s2 : Sl} {op : List D → List D → Option (D × List D)} {ds : List D} : mutC 3 fs op (s0 :: s1 :: s2 :: .ow (.list ds) :: g) k = fs (s0 :: s1 :: s2 :: .ow (.list ds) :: g) fun as g' => muK 3 op as g' k := rfl
@[simp ↓] theorem mk3ow {s0 s1 s2 : Sl} {op : List D → List D → Option (D × List D)} {as ds : List D} : muK 3 op as (s0 :: s1 :: s2 :: .ow (.list ds) :: g) k = mutK (op ds as) fun r ds' => k r (s0 :: s1 :: s2 :: .ow (.list ds') :: g) := by
  show (match op ds as with | some (d, ds') => _ | none => _) = _
  unfold mutK; split <;> rfl
@[simp ↓] theorem pu3ow {s0 s1 s2 : Sl} {ds : List D} : putC 3 fi d (s0 :: s1 :: s2 :: .ow (.list ds) :: g) kT = fi (s0 :: s1 :: s2 :: .ow (.list ds) :: g) fun j g' => puK 3 d j g' kT := rfl
@[simp ↓] theorem pk3ow {s0 s1 s2 : Sl} {ds : List D} {n : Int} : puK 3 d (.int n) (s0 :: s1 :: s2 :: .ow (.list ds) :: g) kT = setK ds n d fun ds' => kT (s0 :: s1 :: s2 :: .ow (.list ds') :: g) := by
  show (match ixN ds.length n with | some m => _ | none => _) = _
  unfold setK; split <;> rfl
@[simp ↓] theorem au3ow {s0 s1 s2 : Sl} {ds : List D} {f : Int → Int → Int} : augT 3 fi fe f (s0 :: s1 :: s2 :: .ow (.list ds) :: g) kT = fi (s0 :: s1 :: s2 :: .ow (.list ds) :: g) fun j g' => auJ 3 fe f j g' kT := rfl
@[simp ↓] theorem aj3ow {s0 s1 s2 : Sl} {ds : List D} {f : Int → Int → Int} {n : Int} : auJ 3 fe f (.int n) (s0 :: s1 :: s2 :: .ow (.list ds) :: g) kT = augK ds n fun x => fe (s0 :: s1 :: s2 :: .ow (.list ds) :: g) fun y g2 => auK 3 f n x y g2 kT := by
  show (match ixN ds.length n with | some m => _ | none => _) = _
  unfold augK; split <;> rfl
@[simp ↓] theorem ak3ow {s0 s1 s2 : Sl} {ds : List D} {f : Int → Int → Int} {n x y : Int} : auK 3 f n x (.int y) (s0 :: s1 :: s2 :: .ow (.list ds) :: g) kT = setK ds n (.int (f x y)) fun ds' => kT (s0 :: s1 :: s2 :: .ow (.list ds') :: g) := by
  show (match ixN ds.length n with | some m => _ | none => _) = _
  unfold setK; split <;> rfl
@[simp ↓] theorem rc3rf {s0 s1 s2 : Sl} {φ : Fd} : callRC 3 φ fs (s0 :: s1 :: s2 :: .rf d :: g) kS = fs (s0 :: s1 :: s2 :: .rf d :: g) fun ds g' => rcK 3 φ ds g' kS := rfl
@[simp ↓] theorem rk3rf {s0 s1 s2 : Sl} {φ : Fd} {ds : List D} : rcK 3 φ ds (s0 :: s1 :: s2 :: .rf d :: g) kS = okR1 (φ (d :: ds)) fun s d1 => kS s (s0 :: s1 :: s2 :: .rf d1 :: g) := by
  show (match φ (d :: ds) with | .ok s [d1] => _ | _ => _) = _
  unfold okR1; split <;> rfl
@[simp ↓] theorem mu3rf {s0 s1 s2 : Sl} {op : List D → List D → Option (D × List D)} {ds : List D} : mutC 3 fs op (s0 :: s1 :: s2 :: .rf (.list ds) :: g) k = fs (s0 :: s1 :: s2 :: .rf (.list ds) :: g) fun as g' => muK 3 op as g' k := rfl
@[simp ↓] theorem mk3rf {s0 s1 s2 : Sl} {op : List D → List D → Option (D × List D)} {as ds : List D} : muK 3 op as (s0 :: s1 :: s2 :: .rf (.list ds) :: g) k = mutK (op ds as) fun r ds' => k r (s0 :: s1 :: s2 :: .rf (.list ds') :: g) := by
  show (match op ds as with | some (d, ds') => _ | none => _) = _
  unfold mutK; split <;> rfl
@[simp ↓] theorem pu3rf {s0 s1 s2 : Sl} {ds : List D} : putC 3 fi d (s0 :: s1 :: s2 :: .rf (.list ds) :: g) kT = fi (s0 :: s1 :: s2 :: .rf (.list ds) :: g) fun j g' => puK 3 d j g' kT := rfl
@[simp ↓] theorem pk3rf {s0 s1 s2 : Sl} {ds : List D} {n : Int} : puK 3 d (.int n) (s0 :: s1 :: s2 :: .rf (.list ds) :: g) kT = setK ds n d fun ds' => kT (s0 :: s1 :: s2 :: .rf (.list ds') :: g) := by
  show (match ixN ds.length n with | some m => _ | none => _) = _
  unfold setK; split <;> rfl
@[simp ↓] theorem au3rf {s0 s1 s2 : Sl} {ds : List D} {f : Int → Int → Int} : augT 3 fi fe f (s0 :: s1 :: s2 :: .rf (.list ds) :: g) kT = fi (s0 :: s1 :: s2 :: .rf (.list ds) :: g) fun j g' => auJ 3 fe f j g' kT := rfl
@[simp ↓] theorem aj3rf {s0 s1 s2 : Sl} {ds : List D} {f : Int → Int → Int} {n : Int} : auJ 3 fe f (.int n) (s0 :: s1 :: s2 :: .rf (.list ds) :: g) kT = augK ds n fun x => fe (s0 :: s1 :: s2 :: .rf (.list ds) :: g) fun y g2 => auK 3 f n x y g2 kT := by
  show (match ixN ds.length n with | some m => _ | none => _) = _
  unfold augK; split <;> rfl
@[simp ↓] theorem ak3rf {s0 s1 s2 : Sl} {ds : List D} {f : Int → Int → Int} {n x y : Int} : auK 3 f n x (.int y) (s0 :: s1 :: s2 :: .rf (.list ds) :: g) kT = setK ds n (.int (f x y)) fun ds' => kT (s0 :: s1 :: s2 :: .rf (.list ds') :: g) := by
  show (match ixN ds.length n with | some m => _ | none => _) = _
  unfold setK; split <;> rfl
@[simp ↓] theorem ag3 {s0 s1 s2 : Sl} {f : Int → Int → Int} {x : Int} : augN 3 fe f (s0 :: s1 :: s2 :: .sh (.int x) :: g) kT = fe (s0 :: s1 :: s2 :: .sh (.int x) :: g) fun y g' => kopO (intO y) g' fun y g' => stC 3 (.sh (.int (f x y))) g' kT := by
  show (fe _ _) = _
  congr 1; funext y g'; cases y <;> rfl
@[simp ↓] theorem rc4ow {s0 s1 s2 s3 : Sl} {φ : Fd} : callRC 4 φ fs (s0 :: s1 :: s2 :: s3 :: .ow d :: g) kS = fs (s0 :: s1 :: s2 :: s3 :: .ow d :: g) fun ds g' => rcK 4 φ ds g' kS := rfl
@[simp ↓] theorem rk4ow {s0 s1 s2 s3 : Sl} {φ : Fd} {ds : List D} : rcK 4 φ ds (s0 :: s1 :: s2 :: s3 :: .ow d :: g) kS = okR1 (φ (d :: ds)) fun s d1 => kS s (s0 :: s1 :: s2 :: s3 :: .ow d1 :: g) := by
  show (match φ (d :: ds) with | .ok s [d1] => _ | _ => _) = _
  unfold okR1; split <;> rfl
@[simp ↓] theorem mu4ow {s0 s1 s2 s3 : Sl} {op : List D → List D → Option (D × List D)} {ds : List D} : mutC 4 fs op (s0 :: s1 :: s2 :: s3 :: .ow (.list ds) :: g) k = fs (s0 :: s1 :: s2 :: s3 :: .ow (.list ds) :: g) fun as g' => muK 4 op as g' k := rfl
@[simp ↓] theorem mk4ow {s0 s1 s2 s3 : Sl} {op : List D → List D → Option (D × List D)} {as ds : List D} : muK 4 op as (s0 :: s1 :: s2 :: s3 :: .ow (.list ds) :: g) k = mutK (op ds as) fun r ds' => k r (s0 :: s1 :: s2 :: s3 :: .ow (.list ds') :: g) := by
  show (match op ds as with | some (d, ds') => _ | none => _) = _
  unfold mutK; split <;> rfl
@[simp ↓] theorem pu4ow {s0 s1 s2 s3 : Sl} {ds : List D} : putC 4 fi d (s0 :: s1 :: s2 :: s3 :: .ow (.list ds) :: g) kT = fi (s0 :: s1 :: s2 :: s3 :: .ow (.list ds) :: g) fun j g' => puK 4 d j g' kT := rfl
@[simp ↓] theorem pk4ow {s0 s1 s2 s3 : Sl} {ds : List D} {n : Int} : puK 4 d (.int n) (s0 :: s1 :: s2 :: s3 :: .ow (.list ds) :: g) kT = setK ds n d fun ds' => kT (s0 :: s1 :: s2 :: s3 :: .ow (.list ds') :: g) := by
  show (match ixN ds.length n with | some m => _ | none => _) = _
  unfold setK; split <;> rfl
@[simp ↓] theorem au4ow {s0 s1 s2 s3 : Sl} {ds : List D} {f : Int → Int → Int} : augT 4 fi fe f (s0 :: s1 :: s2 :: s3 :: .ow (.list ds) :: g) kT = fi (s0 :: s1 :: s2 :: s3 :: .ow (.list ds) :: g) fun j g' => auJ 4 fe f j g' kT := rfl
@[simp ↓] theorem aj4ow {s0 s1 s2 s3 : Sl} {ds : List D} {f : Int → Int → Int} {n : Int} : auJ 4 fe f (.int n) (s0 :: s1 :: s2 :: s3 :: .ow (.list ds) :: g) kT = augK ds n fun x => fe (s0 :: s1 :: s2 :: s3 :: .ow (.list ds) :: g) fun y g2 => auK 4 f n x y g2 kT := by
  show (match ixN ds.length n with | some m => _ | none => _) = _
  unfold augK; split <;> rfl
@[simp ↓] theorem ak4ow {s0 s1 s2 s3 : Sl} {ds : List D} {f : Int → Int → Int} {n x y : Int} : auK 4 f n x (.int y) (s0 :: s1 :: s2 :: s3 :: .ow (.list ds) :: g) kT = setK ds n (.int (f x y)) fun ds' => kT (s0 :: s1 :: s2 :: s3 :: .ow (.list ds') :: g) := by
  show (match ixN ds.length n with | some m => _ | none => _) = _
  unfold setK; split <;> rfl
@[simp ↓] theorem rc4rf {s0 s1 s2 s3 : Sl} {φ : Fd} : callRC 4 φ fs (s0 :: s1 :: s2 :: s3 :: .rf d :: g) kS = fs (s0 :: s1 :: s2 :: s3 :: .rf d :: g) fun ds g' => rcK 4 φ ds g' kS := rfl
@[simp ↓] theorem rk4rf {s0 s1 s2 s3 : Sl} {φ : Fd} {ds : List D} : rcK 4 φ ds (s0 :: s1 :: s2 :: s3 :: .rf d :: g) kS = okR1 (φ (d :: ds)) fun s d1 => kS s (s0 :: s1 :: s2 :: s3 :: .rf d1 :: g) := by
  show (match φ (d :: ds) with | .ok s [d1] => _ | _ => _) = _
  unfold okR1; split <;> rfl
@[simp ↓] theorem mu4rf {s0 s1 s2 s3 : Sl} {op : List D → List D → Option (D × List D)} {ds : List D} : mutC 4 fs op (s0 :: s1 :: s2 :: s3 :: .rf (.list ds) :: g) k = fs (s0 :: s1 :: s2 :: s3 :: .rf (.list ds) :: g) fun as g' => muK 4 op as g' k := rfl
@[simp ↓] theorem mk4rf {s0 s1 s2 s3 : Sl} {op : List D → List D → Option (D × List D)} {as ds : List D} : muK 4 op as (s0 :: s1 :: s2 :: s3 :: .rf (.list ds) :: g) k = mutK (op ds as) fun r ds' => k r (s0 :: s1 :: s2 :: s3 :: .rf (.list ds') :: g) := by
  show (match op ds as with | some (d, ds') => _ | none => _) = _
  unfold mutK; split <;> rfl
@[simp ↓] theorem pu4rf {s0 s1 s2 s3 : Sl} {ds : List D} : putC 4 fi d (s0 :: s1 :: s2 :: s3 :: .rf (.list ds) :: g) kT = fi (s0 :: s1 :: s2 :: s3 :: .rf (.list ds) :: g) fun j g' => puK 4 d j g' kT := rfl
@[simp ↓] theorem pk4rf {s0 s1 s2 s3 : Sl} {ds : List D} {n : Int} : puK 4 d (.int n) (s0 :: s1 :: s2 :: s3 :: .rf (.list ds) :: g) kT = setK ds n d fun ds' => kT (s0 :: s1 :: s2 :: s3 :: .rf (.list ds') :: g) := by
  show (match ixN ds.length n with | some m => _ | none => _) = _
  unfold setK; split <;> rfl
@[simp ↓] theorem au4rf {s0 s1 s2 s3 : Sl} {ds : List D} {f : Int → Int → Int} : augT 4 fi fe f (s0 :: s1 :: s2 :: s3 :: .rf (.list ds) :: g) kT = fi (s0 :: s1 :: s2 :: s3 :: .rf (.list ds) :: g) fun j g' => auJ 4 fe f j g' kT := rfl
@[simp ↓] theorem aj4rf {s0 s1 s2 s3 : Sl} {ds : List D} {f : Int → Int → Int} {n : Int} : auJ 4 fe f (.int n) (s0 :: s1 :: s2 :: s3 :: .rf (.list ds) :: g) kT = augK ds n fun x => fe (s0 :: s1 :: s2 :: s3 :: .rf (.list ds) :: g) fun y g2 => auK 4 f n x y g2 kT := by
  show (match ixN ds.length n with | some m => _ | none => _) = _
  unfold augK; split <;> rfl
@[simp ↓] theorem ak4rf {s0 s1 s2 s3 : Sl} {ds : List D} {f : Int → Int → Int} {n x y : Int} : auK 4 f n x (.int y) (s0 :: s1 :: s2 :: s3 :: .rf (.list ds) :: g) kT = setK ds n (.int (f x y)) fun ds' => kT (s0 :: s1 :: s2 :: s3 :: .rf (.list ds') :: g) := by
  show (match ixN ds.length n with | some m => _ | none => _) = _
  unfold setK; split <;> rfl
@[simp ↓] theorem ag4 {s0 s1 s2 s3 : Sl} {f : Int → Int → Int} {x : Int} : augN 4 fe f (s0 :: s1 :: s2 :: s3 :: .sh (.int x) :: g) kT = fe (s0 :: s1 :: s2 :: s3 :: .sh (.int x) :: g) fun y g' => kopO (intO y) g' fun y g' => stC 4 (.sh (.int (f x y))) g' kT := by
  show (fe _ _) = _
  congr 1; funext y g'; cases y <;> rfl
@[simp ↓] theorem rc5ow {s0 s1 s2 s3 s4 : Sl} {φ : Fd} : callRC 5 φ fs (s0 :: s1 :: s2 :: s3 :: s4 :: .ow d :: g) kS = fs (s0 :: s1 :: s2 :: s3 :: s4 :: .ow d :: g) fun ds g' => rcK 5 φ ds g' kS := rfl
@[simp ↓] theorem rk5ow {s0 s1 s2 s3 s4 : Sl} {φ : Fd} {ds : List D} : rcK 5 φ ds (s0 :: s1 :: s2 :: s3 :: s4 :: .ow d :: g) kS = okR1 (φ (d :: ds)) fun s d1 => kS s (s0 :: s1 :: s2 :: s3 :: s4 :: .ow d1 :: g) := by
  show (match φ (d :: ds) with | .ok s [d1] => _ | _ => _) = _
  unfold okR1; split <;> rfl
@[simp ↓] theorem mu5ow {s0 s1 s2 s3 s4 : Sl} {op : List D → List D → Option (D × List D)} {ds : List D} : mutC 5 fs op (s0 :: s1 :: s2 :: s3 :: s4 :: .ow (.list ds) :: g) k = fs (s0 :: s1 :: s2 :: s3 :: s4 :: .ow (.list ds) :: g) fun as g' => muK 5 op as g' k := rfl
@[simp ↓] theorem mk5ow {s0 s1 s2 s3 s4 : Sl} {op : List D → List D → Option (D × List D)} {as ds : List D} : muK 5 op as (s0 :: s1 :: s2 :: s3 :: s4 :: .ow (.list ds) :: g) k = mutK (op ds as) fun r ds' => k r (s0 :: s1 :: s2 :: s3 :: s4 :: .ow (.list ds') :: g) := by
  show (match op ds as with | some (d, ds') => _ | none => _) = _
  unfold mutK; split <;> rfl
@[simp ↓] theorem pu5ow {s0 s1 s2 s3 s4 : Sl} {ds : List D} : putC 5 fi d (s0 :: s1 :: s2 :: s3 :: s4 :: .ow (.list ds) :: g) kT = fi (s0 :: s1 :: s2 :: s3 :: s4 :: .ow (.list ds) :: g) fun j g' => puK 5 d j g' kT := rfl
@[simp ↓] theorem pk5ow {s0 s1 s2 s3 s4 : Sl} {ds : List D} {n : Int} : puK 5 d (.int n) (s0 :: s1 :: s2 :: s3 :: s4 :: .ow (.list ds) :: g) kT = setK ds n d fun ds' => kT (s0 :: s1 :: s2 :: s3 :: s4 :: .ow (.list ds') :: g) := by
  show (match ixN ds.length n with | some m => _ | none => _) = _
  unfold setK; split <;> rfl
@[simp ↓] theorem au5ow {s0 s1 s2 s3 s4 : Sl} {ds : List D} {f : Int → Int → Int} : augT 5 fi fe f (s0 :: s1 :: s2 :: s3 :: s4 :: .ow (.list ds) :: g) kT = fi (s0 :: s1 :: s2 :: s3 :: s4 :: .ow (.list ds) :: g) fun j g' => auJ 5 fe f j g' kT := rfl
@[simp ↓] theorem aj5ow {s0 s1 s2 s3 s4 : Sl} {ds : List D} {f : Int → Int → Int} {n : Int} : auJ 5 fe f (.int n) (s0 :: s1 :: s2 :: s3 :: s4 :: .ow (.list ds) :: g) kT = augK ds n fun x => fe (s0 :: s1 :: s2 :: s3 :: s4 :: .ow (.list ds) :: g) fun y g2 => auK 5 f n x y g2 kT := by
  show (match ixN ds.length n with | some m => _ | none => _) = _
  unfold augK; split <;> rfl
@[simp ↓] theorem ak5ow {s0 s1 s2 s3 s4 : Sl} {ds : List D} {f : Int → Int → Int} {n x y : Int} : auK 5 f n x (.int y) (s0 :: s1 :: s2 :: s3 :: s4 :: .ow (.list ds) :: g) kT = setK ds n (.int (f x y)) fun ds' => kT (s0 :: s1 :: s2 :: s3 :: s4 :: .ow (.list ds') :: g) := by
  show (match ixN ds.length n with | some m => _ | none => _) = _
  unfold setK; split <;> rfl
@[simp ↓] theorem rc5rf {s0 s1 s2 s3 s4 : Sl} {φ : Fd} : callRC 5 φ fs (s0 :: s1 :: s2 :: s3 :: s4 :: .rf d :: g) kS = fs (s0 :: s1 :: s2 :: s3 :: s4 :: .rf d :: g) fun ds g' => rcK 5 φ ds g' kS := rfl
@[simp ↓] theorem rk5rf {s0 s1 s2 s3 s4 : Sl} {φ : Fd} {ds : List D} : rcK 5 φ ds (s0 :: s1 :: s2 :: s3 :: s4 :: .rf d :: g) kS = okR1 (φ (d :: ds)) fun s d1 => kS s (s0 :: s1 :: s2 :: s3 :: s4 :: .rf d1 :: g) := by
  show (match φ (d :: ds) with | .ok s [d1] => _ | _ => _) = _
  unfold okR1; split <;> rfl
@[simp ↓] theorem mu5rf {s0 s1 s2 s3 s4 : Sl} {op : List D → List D → Option (D × List D)} {ds : List D} : mutC 5 fs op (s0 :: s1 :: s2 :: s3 :: s4 :: .rf (.list ds) :: g) k = fs (s0 :: s1 :: s2 :: s3 :: s4 :: .rf (.list ds) :: g) fun as g' => muK 5 op as g' k := rfl
@[simp ↓] theorem mk5rf {s0 s1 s2 s3 s4 : Sl} {op : List D → List D → Option (D × List D)} {as ds : List D} : muK 5 op as (s0 :: s1 :: s2 :: s3 :: s4 :: .rf (.list ds) :: g) k = mutK (op ds as) fun r ds' => k r (s0 :: s1 :: s2 :: s3 :: s4 :: .rf (.list ds') :: g) := by
  show (match op ds as with | some (d, ds') => _ | none => _) = _
  unfold mutK; split <;> rfl
@[simp ↓] theorem pu5rf {s0 s1 s2 s3 s4 : Sl} {ds : List D} : putC 5 fi d (s0 :: s1 :: s2 :: s3 :: s4 :: .rf (.list ds) :: g) kT = fi (s0 :: s1 :: s2 :: s3 :: s4 :: .rf (.list ds) :: g) fun j g' => puK 5 d j g' kT := rfl
@[simp ↓] theorem pk5rf {s0 s1 s2 s3 s4 : Sl} {ds : List D} {n : Int} : puK 5 d (.int n) (s0 :: s1 :: s2 :: s3 :: s4 :: .rf (.list ds) :: g) kT = setK ds n d fun ds' => kT (s0 :: s1 :: s2 :: s3 :: s4 :: .rf (.list ds') :: g) := by
  show (match ixN ds.length n with | some m => _ | none => _) = _
  unfold setK; split <;> rfl
@[simp ↓] theorem au5rf {s0 s1 s2 s3 s4 : Sl} {ds : List D} {f : Int → Int → Int} : augT 5 fi fe f (s0 :: s1 :: s2 :: s3 :: s4 :: .rf (.list ds) :: g) kT = fi (s0 :: s1 :: s2 :: s3 :: s4 :: .rf (.list ds) :: g) fun j g' => auJ 5 fe f j g' kT := rfl
@[simp ↓] theorem aj5rf {s0 s1 s2 s3 s4 : Sl} {ds : List D} {f : Int → Int → Int} {n : Int} : auJ 5 fe f (.int n) (s0 :: s1 :: s2 :: s3 :: s4 :: .rf (.list ds) :: g) kT = augK ds n fun x => fe (s0 :: s1 :: s2 :: s3 :: s4 :: .rf (.list ds) :: g) fun y g2 => auK 5 f n x y g2 kT := by
  show (match ixN ds.length n with | some m => _ | none => _) = _
  unfold augK; split <;> rfl
@[simp ↓] theorem ak5rf {s0 s1 s2 s3 s4 : Sl} {ds : List D} {f : Int → Int → Int} {n x y : Int} : auK 5 f n x (.int y) (s0 :: s1 :: s2 :: s3 :: s4 :: .rf (.list ds) :: g) kT = setK ds n (.int (f x y)) fun ds' => kT (s0 :: s1 :: s2 :: s3 :: s4 :: .rf (.list ds') :: g) := by
  show (match ixN ds.length n with | some m => _ | none => _) = _
  unfold setK; split <;> rfl
@[simp ↓] theorem ag5 {s0 s1 s2 s3 s4 : Sl} {f : Int → Int → Int} {x : Int} : augN 5 fe f (s0 :: s1 :: s2 :: s3 :: s4 :: .sh (.int x) :: g) kT = fe (s0 :: s1 :: s2 :: s3 :: s4 :: .sh (.int x) :: g) fun y g' => kopO (intO y) g' fun y g' => stC 5 (.sh (.int (f x y))) g' kT := by
  show (fe _ _) = _
  congr 1; funext y g'; cases y <;> rfl
@[simp ↓] theorem rc6ow {s0 s1 s2 s3 s4 s5 : Sl} {φ : Fd} : callRC 6 φ fs (s0 :: s1 :: s2 :: s3 :: s4 :: s5 :: .ow d :: g) kS = fs (s0 :: s1 :: s2 :: s3 :: s4 :: s5 :: .ow d :: g) fun ds g' => rcK 6 φ ds g' kS := rfl
@[simp ↓] theorem rk6ow {s0 s1 s2 s3 s4 s5 : Sl} {φ : Fd} {ds : List D} : rcK 6 φ ds (s0 :: s1 :: s2 :: s3 :: s4 :: s5 :: .ow d :: g) kS = okR1 (φ (d :: ds)) fun s d1 => kS s (s0 :: s1 :: s2 :: s3 :: s4 :: s5 :: .ow d1 :: g) := by
  show (match φ (d :: ds) with | .ok s [d1] => _ | _ => _) = _
  unfold okR1; split <;> rfl
@[simp ↓] theorem mu6ow {s0 s1 s2 s3 s4 s5 : Sl} {op : List D → List D → Option (D × List D)} {ds : List D} : mutC 6 fs op (s0 :: s1 :: s2 :: s3 :: s4 :: s5 :: .ow (.list ds) :: g) k = fs (s0 :: s1 :: s2 :: s3 :: s4 :: s5 :: .ow (.list ds) :: g) fun as g' => muK 6 op as g' k := rfl
@[simp ↓] theorem mk6ow {s0 s1 s2 s3 s4 s5 : Sl} {op : List D → List D → Option (D × List D)} {as ds : List D} : muK 6 op as (s0 :: s1 :: s2 :: s3 :: s4 :: s5 :: .ow (.list ds) :: g) k = mutK (op ds as) fun r ds' => k r (s0 :: s1 :: s2 :: s3 :: s4 :: s5 :: .ow (.list ds') :: g) := by
  show (match op ds as with | some (d, ds') => _ | none => _) = _
  unfold mutK; split <;> rfl
@[simp ↓] theorem pu6ow {s0 s1 s2 s3 s4 s5 : Sl} {ds : List D} : putC 6 fi d (s0 :: s1 :: s2 :: s3 :: s4 :: s5 :: .ow (.list ds) :: g) kT = fi (s0 :: s1 :: s2 :: s3 :: s4 :: s5 :: .ow (.list ds) :: g) fun j g' => puK 6 d j g' kT := rfl
@[simp ↓] theorem pk6ow {s0 s1 s2 s3 s4 s5 : Sl} {ds : List D} {n : Int} : puK 6 d (.int n) (s0 :: s1 :: s2 :: s3 :: s4 :: s5 :: .ow (.list ds) :: g) kT = setK ds n d fun ds' => kT (s0 :: s1 :: s2 :: s3 :: s4 :: s5 :: .ow (.list ds') :: g) := by
  show (match ixN ds.length n with | some m => _ | none => _) = _
  unfold setK; split <;> rfl
@[simp ↓] theorem au6ow {s0 s1 s2 s3 s4 s5 : Sl} {ds : List D} {f : Int → Int → Int} : augT 6 fi fe f (s0 :: s1 :: s2 :: s3 :: s4 :: s5 :: .ow (.list ds) :: g) kT = fi (s0 :: s1 :: s2 :: s3 :: s4 :: s5 :: .ow (.list ds) :: g) fun j g' => auJ 6 fe f j g' kT := rfl
@[simp ↓] theorem aj6ow {s0 s1 s2 s3 s4 s5 : Sl} {ds : List D} {f : Int → Int → Int} {n : Int} : auJ 6 fe f (.int n) (s0 :: s1 :: s2 :: s3 :: s4 :: s5 :: .ow (.list ds) :: g) kT = augK ds n fun x => fe (s0 :: s1 :: s2 :: s3 :: s4 :: s5 :: .ow (.list ds) :: g) fun y g2 => auK 6 f n x y g2 kT := by
  show (match ixN ds.length n with | some m => _ | none => _) = _
  unfold augK; split <;> rfl
@[simp ↓] theorem ak6ow {s0 s1 s2 s3 s4 s5 : Sl} {ds : List D} {f : Int → Int → Int} {n x y : Int} : auK 6 f n x (.int y) (s0 :: s1 :: s2 :: s3 :: s4 :: s5 :: .ow (.list ds) :: g) kT = setK ds n (.int (f x y)) fun ds' => kT (s0 :: s1 :: s2 :: s3 :: s4 :: s5 :: .ow (.list ds') :: g) := by
  show (match ixN ds.length n with | some m => _ | none => _) = _
  unfold setK; split <;> rfl
@[simp ↓] theorem rc6rf {s0 s1 s2 s3 s4 s5 : Sl} {φ : Fd} : callRC 6 φ fs (s0 :: s1 :: s2 :: s3 :: s4 :: s5 :: .rf d :: g) kS = fs (s0 :: s1 :: s2 :: s3 :: s4 :: s5 :: .rf d :: g) fun ds g' => rcK 6 φ ds g' kS := rfl
@[simp ↓] theorem rk6rf {s0 s1 s2 s3 s4 s5 : Sl} {φ : Fd} {ds : List D} : rcK 6 φ ds (s0 :: s1 :: s2 :: s3 :: s4 :: s5 :: .rf d :: g) kS = okR1 (φ (d :: ds)) fun s d1 => kS s (s0 :: s1 :: s2 :: s3 :: s4 :: s5 :: .rf d1 :: g) := by
  show (match φ (d :: ds) with | .ok s [d1] => _ | _ => _) = _
  unfold okR1; split <;> rfl
@[simp ↓] theorem mu6rf {s0 s1 s2 s3 s4 s5 : Sl} {op : List D → List D → Option (D × List D)} {ds : List D} : mutC 6 fs op (s0 :: s1 :: s2 :: s3 :: s4 :: s5 :: .rf (.list ds) :: g) k = fs (s0 :: s1 :: s2 :: s3 :: s4 :: s5 :: .rf (.list ds) :: g) fun as g' => muK 6 op as g' k := rfl
@[simp ↓] theorem mk6rf {s0 s1 s2 s3 s4 s5 : Sl} {op : List D → List D → Option (D × List D)} {as ds : List D} : muK 6 op as (s0 :: s1 :: s2 :: s3 :: s4 :: s5 :: .rf (.list ds) :: g) k = mutK (op ds as) fun r ds' => k r (s0 :: s1 :: s2 :: s3 :: s4 :: s5 :: .rf (.list ds') :: g) := by
  show (match op ds as with | some (d, ds') => _ | none => _) = _
  unfold mutK; split <;> rfl
@[simp ↓] theorem pu6rf {s0 s1 s2 s3 s4 s5 : Sl} {ds : List D} : putC 6 fi d (s0 :: s1 :: s2 :: s3 :: s4 :: s5 :: .rf (.list ds) :: g) kT = fi (s0 :: s1 :: s2 :: s3 :: s4 :: s5 :: .rf (.list ds) :: g) fun j g' => puK 6 d j g' kT := rfl
@[simp ↓] theorem pk6rf {s0 s1 s2 s3 s4 s5 : Sl} {ds : List D} {n : Int} : puK 6 d (.int n) (s0 :: s1 :: s2 :: s3 :: s4 :: s5 :: .rf (.list ds) :: g) kT = setK ds n d fun ds' => kT (s0 :: s1 :: s2 :: s3 :: s4 :: s5 :: .rf (.list ds') :: g) := by
  show (match ixN ds.length n with | some m => _ | none => _) = _
  unfold setK; split <;> rfl
@[simp ↓] theorem au6rf {s0 s1 s2 s3 s4 s5 : Sl} {ds : List D} {f : Int → Int → Int} : augT 6 fi fe f (s0 :: s1 :: s2 :: s3 :: s4 :: s5 :: .rf (.list ds) :: g) kT = fi (s0 :: s1 :: s2 :: s3 :: s4 :: s5 :: .rf (.list ds) :: g) fun j g' => auJ 6 fe f j g' kT := rfl
@[simp ↓] theorem aj6rf {s0 s1 s2 s3 s4 s5 : Sl} {ds : List D} {f : Int → Int → Int} {n : Int} : auJ 6 fe f (.int n) (s0 :: s1 :: s2 :: s3 :: s4 :: s5 :: .rf (.list ds) :: g) kT = augK ds n fun x => fe (s0 :: s1 :: s2 :: s3 :: s4 :: s5 :: .rf (.list ds) :: g) fun y g2 => auK 6 f n x y g2 kT := by
  show (match ixN ds.length n with | some m => _ | none => _) = _
  unfold augK; split <;> rfl
@[simp ↓] theorem ak6rf {s0 s1 s2 s3 s4 s5 : Sl} {ds : List D} {f : Int → Int → Int} {n x y : Int} : auK 6 f n x (.int y) (s0 :: s1 :: s2 :: s3 :: s4 :: s5 :: .rf (.list ds) :: g) kT = setK ds n (.int (f x y)) fun ds' => kT (s0 :: s1 :: s2 :: s3 :: s4 :: s5 :: .rf (.list ds') :: g) := by
  show (match ixN ds.length n with | some m => _ | none => _) = _
  unfold setK; split <;> rfl
@[simp ↓] theorem ag6 {s0 s1 s2 s3 s4 s5 : Sl} {f : Int → Int → Int} {x : Int} : augN 6 fe f (s0 :: s1 :: s2 :: s3 :: s4 :: s5 :: .sh (.int x) :: g) kT = fe (s0 :: s1 :: s2 :: s3 :: s4 :: s5 :: .sh (.int x) :: g) fun y g' => kopO (intO y) g' fun y g' => stC 6 (.sh (.int (f x y))) g' kT := by
  show (fe _ _) = _
  congr 1; funext y g'; cases y <;> rfl
@[simp ↓] theorem rc7ow {s0 s1 s2 s3 s4 s5 s6 : Sl} {φ : Fd} : callRC 7 φ fs (s0 :: s1 :: s2 :: s3 :: s4 :: s5 :: s6 :: .ow d :: g) kS = fs (s0 :: s1 :: s2 :: s3 :: s4 :: s5 :: s6 :: .ow d :: g) fun ds g' => rcK 7 φ ds g' kS := rfl
@[simp ↓] theorem rk7ow {s0 s1 s2 s3 s4 s5 s6 : Sl} {φ : Fd} {ds : List D} : rcK 7 φ ds (s0 :: s1 :: s2 :: s3 :: s4 :: s5 :: s6 :: .ow d :: g) kS = okR1 (φ (d :: ds)) fun s d1 => kS s (s0 :: s1 :: s2 :: s3 :: s4 :: s5 :: s6 :: .ow d1 :: g) := by
  show (match φ (d :: ds) with | .ok s [d1] => _ | _ => _) = _
  unfold okR1; split <;> rfl
@[simp ↓] theorem mu7ow {s0 s1 s2 s3 s4 s5 s6 : Sl} {op : List D → List D → Option (D × List D)} {ds : List D} : mutC 7 fs op (s0 :: s1 :: s2 :: s3 :: s4 :: s5 :: s6 :: .ow (.list ds) :: g) k = fs (s0 :: s1 :: s2 :: s3 :: s4 :: s5 :: s6 :: .ow (.list ds) :: g) fun as g' => muK 7 op as g' k := rfl
@[simp ↓] theorem mk7ow {s0 s1 s2 s3 s4 s5 s6 : Sl} {op : List D → List D → Option (D × List D)} {as ds : List D} : muK 7 op as (s0 :: s1 :: s2 :: s3 :: s4 :: s5 :: s6 :: .ow (.list ds) :: g) k = mutK (op ds as) fun r ds' => k r (s0 :: s1 :: s2 :: s3 :: s4 :: s5 :: s6 :: .ow (.list ds') :: g) := by
  show (match op ds as with | some (d, ds') => _ | none => _) = _
  unfold mutK; split <;> rfl
@[simp ↓] theorem pu7ow {s0 s1 s2 s3 s4 s5 s6 : Sl} {ds : List D} : putC 7 fi d (s0 :: s1 :: s2 :: s3 :: s4 :: s5 :: s6 :: .ow (.list ds) :: g) kT = fi (s0 :: s1 :: s2 :: s3 :: s4 :: s5 :: s6 :: .ow (.list ds) :: g) fun j g' => puK 7 d j g' kT := rfl
@[simp ↓] theorem pk7ow {s0 s1 s2 s3 s4 s5 s6 : Sl} {ds : List D} {n : Int} : puK 7 d (.int n) (s0 :: s1 :: s2 :: s3 :: s4 :: s5 :: s6 :: .ow (.list ds) :: g) kT = setK ds n d fun ds' => kT (s0 :: s1 :: s2 :: s3 :: s4 :: s5 :: s6 :: .ow (.list ds') :: g) := by
  show (match ixN ds.length n with | some m => _ | none => _) = _
  unfold setK; split <;> rfl
@[simp ↓] theorem au7ow {s0 s1 s2 s3 s4 s5 s6 : Sl} {ds : List D} {f : Int → Int → Int} : augT 7 fi fe f (s0 :: s1 :: s2 :: s3 :: s4 :: s5 :: s6 :: .ow (.list ds) :: g) kT = fi (s0 :: s1 :: s2 :: s3 :: s4 :: s5 :: s6 :: .ow (.list ds) :: g) fun j g' => auJ 7 fe f j g' kT := rfl
@[simp ↓] theorem aj7ow {s0 s1 s2 s3 s4 s5 s6 : Sl} {ds : List D} {f : Int → Int → Int} {n : Int} : auJ 7 fe f (.int n) (s0 :: s1 :: s2 :: s3 :: s4 :: s5 :: s6 :: .ow (.list ds) :: g) kT = augK ds n fun x => fe (s0 :: s1 :: s2 :: s3 :: s4 :: s5 :: s6 :: .ow (.list ds) :: g) fun y g2 => auK 7 f n x y g2 kT := by
  show (match ixN ds.length n with | some m => _ | none => _) = _
  unfold augK; split <;> rfl
@[simp ↓] theorem ak7ow {s0 s1 s2 s3 s4 s5 s6 : Sl} {ds : List D} {f : Int → Int → Int} {n x y : Int} : auK 7 f n x (.int y) (s0 :: s1 :: s2 :: s3 :: s4 :: s5 :: s6 :: .ow (.list ds) :: g) kT = setK ds n (.int (f x y)) fun ds' => kT (s0 :: s1 :: s2 :: s3 :: s4 :: s5 :: s6 :: .ow (.list ds') :: g) := by
  show (match ixN ds.length n with | some m => _ | none => _) = _
  unfold setK; split <;> rfl
@[simp ↓] theorem rc7rf {s0 s1 s2 s3 s4 s5 s6 : Sl} {φ : Fd} : callRC 7 φ fs (s0 :: s1 :: s2 :: s3 :: s4 :: s5 :: s6 :: .rf d :: g) kS = fs (s0 :: s1 :: s2 :: s3 :: s4 :: s5 :: s6 :: .rf d :: g) fun ds g' => rcK 7 φ ds g' kS := rfl
@[simp ↓] theorem rk7rf {s0 s1 s2 s3 s4 s5 s6 : Sl} {φ : Fd} {ds : List D} : rcK 7 φ ds (s0 :: s1 :: s2 :: s3 :: s4 :: s5 :: s6 :: .rf d :: g) kS = okR1 (φ (d :: ds)) fun s d1 => kS s (s0 :: s1 :: s2 :: s3 :: s4 :: s5 :: s6 :: .rf d1 :: g) := by
  show (match φ (d :: ds) with | .ok s [d1] => _ | _ => _) = _
  unfold okR1; split <;> rfl
@[simp ↓] theorem mu7rf {s0 s1 s2 s3 s4 s5 s6 : Sl} {op : List D → List D → Option (D × List D)} {ds : List D} : mutC 7 fs op (s0 :: s1 :: s2 :: s3 :: s4 :: s5 :: s6 :: .rf (.list ds) :: g) k = fs (s0 :: s1 :: s2 :: s3 :: s4 :: s5 :: s6 :: .rf (.list ds) :: g) fun as g' => muK 7 op as g' k := rfl
@[simp ↓] theorem mk7rf {s0 s1 s2 s3 s4 s5 s6 : Sl} {op : List D → List D → Option (D × List D)} {as ds : List D} : muK 7 op as (s0 :: s1 :: s2 :: s3 :: s4 :: s5 :: s6 :: .rf (.list ds) :: g) k = mutK (op ds as) fun r ds' => k r (s0 :: s1 :: s2 :: s3 :: s4 :: s5 :: s6 :: .rf (.list ds') :: g) := by
  show (match op ds as with | some (d, ds') => _ | none => _) = _
  unfold mutK; split <;> rfl
@[simp ↓] theorem pu7rf {s0 s1 s2 s3 s4 s5 s6 : Sl} {ds : List D} : putC 7 fi d (s0 :: s1 :: s2 :: s3 :: s4 :: s5 :: s6 :: .rf (.list ds) :: g) kT = fi (s0 :: s1 :: s2 :: s3 :: s4 :: s5 :: s6 :: .rf (.list ds) :: g) fun j g' => puK 7 d j g' kT := rfl
@[simp ↓] theorem pk7rf {s0 s1 s2 s3 s4 s5 s6 : Sl} {ds : List D} {n : Int} : puK 7 d (.int n) (s0 :: s1 :: s2 :: s3 :: s4 :: s5 :: s6 :: .rf (.list ds) :: g) kT = setK ds n d fun ds' => kT (s0 :: s1 :: s2 :: s3 :: s4 :: s5 :: s6 :: .rf (.list ds') :: g) := by
  show (match ixN ds.length n with | some m => _ | none => _) = _
  unfold setK; split <;> rfl
@[simp ↓] theorem au7rf {s0 s1 s2 s3 s4 s5 s6 : Sl} {ds : List D} {f : Int → Int → Int} : augT 7 fi fe f (s0 :: s1 :: s2 :: s3 :: s4 :: s5 :: s6 :: .rf (.list ds) :: g) kT = fi (s0 :: s1 :: s2 :: s3 :: s4 :: s5 :: s6 :: .rf (.list ds) :: g) fun j g' => auJ 7 fe f j g' kT := rfl
@[simp ↓] theorem aj7rf {s0 s1 s2 s3 s4 s5 s6 : Sl} {ds : List D} {f : Int → Int → Int} {n : Int} : auJ 7 fe f (.int n) (s0 :: s1 :: s2 :: s3 :: s4 :: s5 :: s6 :: .rf (.list ds) :: g) kT = augK ds n fun x => fe (s0 :: s1 :: s2 :: s3 :: s4 :: s5 :: s6 :: .rf (.list ds) :: g) fun y g2 => auK 7 f n x y g2 kT := by
  show (match ixN ds.length n with | some m => _ | none => _) = _
  unfold augK; split <;> rfl
@[simp ↓] theorem ak7rf {s0 s1 s2 s3 s4 s5 s6 : Sl} {ds : List D} {f : Int → Int → Int} {n x y : Int} : auK 7 f n x (.int y) (s0 :: s1 :: s2 :: s3 :: s4 :: s5 :: s6 :: .rf (.list ds) :: g) kT = setK ds n (.int (f x y)) fun ds' => kT (s0 :: s1 :: s2 :: s3 :: s4 :: s5 :: s6 :: .rf (.list ds') :: g) := by
  show (match ixN ds.length n with | some m => _ | none => _) = _
  unfold setK; split <;> rfl
@[simp ↓] theorem ag7 {s0 s1 s2 s3 s4 s5 s6 : Sl} {f : Int → Int → Int} {x : Int} : augN 7 fe f (s0 :: s1 :: s2 :: s3 :: s4 :: s5 :: s6 :: .sh (.int x) :: g) kT = fe (s0 :: s1 :: s2 :: s3 :: s4 :: s5 :: s6 :: .sh (.int x) :: g) fun y g' => kopO (intO y) g' fun y g' => stC 7 (.sh (.int (f x y))) g' kT := by
  show (fe _ _) = _
  congr 1; funext y g'; cases y <;> rfl
@[simp ↓] theorem rc8ow {s0 s1 s2 s3 s4 s5 s6 s7 : Sl} {φ : Fd} : callRC 8 φ fs (s0 :: s1 :: s2 :: s3 :: s4 :: s5 :: s6 :: s7 :: .ow d :: g) kS = fs (s0 :: s1 :: s2 :: s3 :: s4 :: s5 :: s6 :: s7 :: .ow d :: g) fun ds g' => rcK 8 φ ds g' kS := rfl
@[simp ↓] theorem rk8ow {s0 s1 s2 s3 s4 s5 s6 s7 : Sl} {φ : Fd} {ds : List D} : rcK 8 φ ds (s0 :: s1 :: s2 :: s3 :: s4 :: s5 :: s6 :: s7 :: .ow d :: g) kS = okR1 (φ (d :: ds)) fun s d1 => kS s (s0 :: s1 :: s2 :: s3 :: s4 :: s5 :: s6 :: s7 :: .ow d1 :: g) := by
  show (match φ (d :: ds) with | .ok s [d1] => _ | _ => _) = _
  unfold okR1; split <;> rfl
@[simp ↓] theorem mu8ow {s0 s1 s2 s3 s4 s5 s6 s7 : Sl} {op : List D → List D → Option (D × List D)} {ds : List D} : mutC 8 fs op (s0 :: s1 :: s2 :: s3 :: s4 :: s5 :: s6 :: s7 :: .ow (.list ds) :: g) k = fs (s0 :: s1 :: s2 :: s3 :: s4 :: s5 :: s6 :: s7 :: .ow (.list ds) :: g) fun as g' => muK 8 op as g' k := rfl
@[simp ↓] theorem mk8ow {s0 s1 s2 s3 s4 s5 s6 s7 : Sl} {op : List D → List D → Option (D × List D)} {as ds : List D} : muK 8 op as (s0 :: s1 :: s2 :: s3 :: s4 :: s5 :: s6 :: s7 :: .ow (.list ds) :: g) k = mutK (op ds as) fun r ds' => k r (s0 :: s1 :: s2 :: s3 :: s4 :: s5 :: s6 :: s7 :: .ow (.list ds') :: g) := by
  show (match op ds as with | some (d, ds') => _ | none => _) = _
  unfold mutK; split <;> rfl
@[simp ↓] theorem pu8ow {s0 s1 s2 s3 s4 s5 s6 s7 : Sl} {ds : List D} : putC 8 fi d (s0 :: s1 :: s2 :: s3 :: s4 :: s5 :: s6 :: s7 :: .ow (.list ds) :: g) kT = fi (s0 :: s1 :: s2 :: s3 :: s4 :: s5 :: s6 :: s7 :: .ow (.list ds) :: g) fun j g' => puK 8 d j g' kT := rfl
@[simp ↓] theorem pk8ow {s0 s1 s2 s3 s4 s5 s6 s7 : Sl} {ds : List D} {n : Int} : puK 8 d (.int n) (s0 :: s1 :: s2 :: s3 :: s4 :: s5 :: s6 :: s7 :: .ow (.list ds) :: g) kT = setK ds n d fun ds' => kT (s0 :: s1 :: s2 :: s3 :: s4 :: s5 :: s6 :: s7 :: .ow (.list ds') :: g) := by
  show (match ixN ds.length n with | some m => _ | none => _) = _
  unfold setK; split <;> rfl
@[simp ↓] theorem au8ow {s0 s1 s2 s3 s4 s5 s6 s7 : Sl} {ds : List D} {f : Int → Int → Int} : augT 8 fi fe f (s0 :: s1 :: s2 :: s3 :: s4 :: s5 :: s6 :: s7 :: .ow (.list ds) :: g) kT = fi (s0 :: s1 :: s2 :: s3 :: s4 :: s5 :: s6 :: s7 :: .ow (.list ds) :: g) fun j g' => auJ 8 fe f j g' kT := rfl
@[simp ↓] theorem aj8ow {s0 s1 s2 s3 s4 s5 s6 s7 : Sl} {ds : List D} {f : Int → Int → Int} {n : Int} : auJ 8 fe f (.int n) (s0 :: s1 :: s2 :: s3 :: s4 :: s5 :: s6 :: s7 :: .ow (.list ds) :: g) kT = augK ds n fun x => fe (s0 :: s1 :: s2 :: s3 :: s4 :: s5 :: s6 :: s7 :: .ow (.list ds) :: g) fun y g2 => auK 8 f n x y g2 kT := by
  show (match ixN ds.length n with | some m => _ | none => _) = _
  unfold augK; split <;> rfl
@[simp ↓] theorem ak8ow {s0 s1 s2 s3 s4 s5 s6 s7 : Sl} {ds : List D} {f : Int → Int → Int} {n x y : Int} : auK 8 f n x (.int y) (s0 :: s1 :: s2 :: s3 :: s4 :: s5 :: s6 :: s7 :: .ow (.list ds) :: g) kT = setK ds n (.int (f x y)) fun ds' => kT (s0 :: s1 :: s2 :: s3 :: s4 :: s5 :: s6 :: s7 :: .ow (.list ds') :: g) := by
  show (match ixN ds.length n with | some m => _ | none => _) = _
  unfold setK; split <;> rfl
@[simp ↓] theorem rc8rf {s0 s1 s2 s3 s4 s5 s6 s7 : Sl} {φ : Fd} : callRC 8 φ fs (s0 :: s1 :: s2 :: s3 :: s4 :: s5 :: s6 :: s7 :: .rf d :: g) kS = fs (s0 :: s1 :: s2 :: s3 :: s4 :: s5 :: s6 :: s7 :: .rf d :: g) fun ds g' => rcK 8 φ ds g' kS := rfl
@[simp ↓] theorem rk8rf {s0 s1 s2 s3 s4 s5 s6 s7 : Sl} {φ : Fd} {ds : List D} : rcK 8 φ ds (s0 :: s1 :: s2 :: s3 :: s4 :: s5 :: s6 :: s7 :: .rf d :: g) kS = okR1 (φ (d :: ds)) fun s d1 => kS s (s0 :: s1 :: s2 :: s3 :: s4 :: s5 :: s6 :: s7 :: .rf d1 :: g) := by
  show (match φ (d :: ds) with | .ok s [d1] => _ | _ => _) = _
  unfold okR1; split <;> rfl
@[simp ↓] theorem mu8rf {s0 s1 s2 s3 s4 s5 s6 s7 : Sl} {op : List D → List D → Option (D × List D)} {ds : List D} : mutC 8 fs op (s0 :: s1 :: s2 :: s3 :: s4 :: s5 :: s6 :: s7 :: .rf (.list ds) :: g) k = fs (s0 :: s1 :: s2 :: s3 :: s4 :: s5 :: s6 :: s7 :: .rf (.list ds) :: g) fun as g' => muK 8 op as g' k := rfl
@[simp ↓] theorem mk8rf {s0 s1 s2 s3 s4 s5 s6 s7 : Sl} {op : List D → List D → Option (D × List D)} {as ds : List D} : muK 8 op as (s0 :: s1 :: s2 :: s3 :: s4 :: s5 :: s6 :: s7 :: .rf (.list ds) :: g) k = mutK (op ds as) fun r ds' => k r (s0 :: s1 :: s2 :: s3 :: s4 :: s5 :: s6 :: s7 :: .rf (.list ds') :: g) := by
  show (match op ds as with | some (d, ds') => _ | none => _) = _
  unfold mutK; split <;> rfl
@[simp ↓] theorem pu8rf {s0 s1 s2 s3 s4 s5 s6 s7 : Sl} {ds : List D} : putC 8 fi d (s0 :: s1 :: s2 :: s3 :: s4 :: s5 :: s6 :: s7 :: .rf (.list ds) :: g) kT = fi (s0 :: s1 :: s2 :: s3 :: s4 :: s5 :: s6 :: s7 :: .rf (.list ds) :: g) fun j g' => puK 8 d j g' kT := rfl
@[simp ↓] theorem pk8rf {s0 s1 s2 s3 s4 s5 s6 s7 : Sl} {ds : List D} {n : Int} : puK 8 d (.int n) (s0 :: s1 :: s2 :: s3 :: s4 :: s5 :: s6 :: s7 :: .rf (.list ds) :: g) kT = setK ds n d fun ds' => kT (s0 :: s1 :: s2 :: s3 :: s4 :: s5 :: s6 :: s7 :: .rf (.list ds') :: g) := by
  show (match ixN ds.length n with | some m => _ | none => _) = _
  unfold setK; split <;> rfl
@[simp ↓] theorem au8rf {s0 s1 s2 s3 s4 s5 s6 s7 : Sl} {ds : List D} {f : Int → Int → Int} : augT 8 fi fe f (s0 :: s1 :: s2 :: s3 :: s4 :: s5 :: s6 :: s7 :: .rf (.list ds) :: g) kT = fi (s0 :: s1 :: s2 :: s3 :: s4 :: s5 :: s6 :: s7 :: .rf (.list ds) :: g) fun j g' => auJ 8 fe f j g' kT := rfl
@[simp ↓] theorem aj8rf {s0 s1 s2 s3 s4 s5 s6 s7 : Sl} {ds : List D} {f : Int → Int → Int} {n : Int} : auJ 8 fe f (.int n) (s0 :: s1 :: s2 :: s3 :: s4 :: s5 :: s6 :: s7 :: .rf (.list ds) :: g) kT = augK ds n fun x => fe (s0 :: s1 :: s2 :: s3 :: s4 :: s5 :: s6 :: s7 :: .rf (.list ds) :: g) fun y g2 => auK 8 f n x y g2 kT := by
  show (match ixN ds.length n with | some m => _ | none => _) = _
  unfold augK; split <;> rfl
@[simp ↓] theorem ak8rf {s0 s1 s2 s3 s4 s5 s6 s7 : Sl} {ds : List D} {f : Int → Int → Int} {n x y : Int} : auK 8 f n x (.int y) (s0 :: s1 :: s2 :: s3 :: s4 :: s5 :: s6 :: s7 :: .rf (.list ds) :: g) kT = setK ds n (.int (f x y)) fun ds' => kT (s0 :: s1 :: s2 :: s3 :: s4 :: s5 :: s6 :: s7 :: .rf (.list ds') :: g) := by
  show (match ixN ds.length n with | some m => _ | none => _) = _
  unfold setK; split <;> rfl
@[simp ↓] theorem ag8 {s0 s1 s2 s3 s4 s5 s6 s7 : Sl} {f : Int → Int → Int} {x : Int} : augN 8 fe f (s0 :: s1 :: s2 :: s3 :: s4 :: s5 :: s6 :: s7 :: .sh (.int x) :: g) kT = fe (s0 :: s1 :: s2 :: s3 :: s4 :: s5 :: s6 :: s7 :: .sh (.int x) :: g) fun y g' => kopO (intO y) g' fun y g' => stC 8 (.sh (.int (f x y))) g' kT := by
  show (fe _ _) = _
  congr 1; funext y g'; cases y <;> rfl
@[simp ↓] theorem rc9ow {s0 s1 s2 s3 s4 s5 s6 s7 s8 : Sl} {φ : Fd} : callRC 9 φ fs (s0 :: s1 :: s2 :: s3 :: s4 :: s5 :: s6 :: s7 :: s8 :: .ow d :: g) kS = fs (s0 :: s1 :: s2 :: s3 :: s4 :: s5 :: s6 :: s7 :: s8 :: .ow d :: g) fun ds g' => rcK 9 φ ds g' kS := rfl
@[simp ↓] theorem rk9ow {s0 s1 s2 s3 s4 s5 s6 s7 s8 : Sl} {φ : Fd} {ds : List D} : rcK 9 φ ds (s0 :: s1 :: s2 :: s3 :: s4 :: s5 :: s6 :: s7 :: s8 :: .ow d :: g) kS = okR1 (φ (d :: ds)) fun s d1 => kS s (s0 :: s1 :: s2 :: s3 :: s4 :: s5 :: s6 :: s7 :: s8 :: .ow d1 :: g) := by
  show (match φ (d :: ds) with | .ok s [d1] => _ | _ => _) = _
  unfold okR1; split <;> rfl
@[simp ↓] theorem mu9ow {s0 s1 s2 s3 s4 s5 s6 s7 s8 : Sl} {op : List D → List D → Option (D × List D)} {ds : List D} : mutC 9 fs op (s0 :: s1 :: s2 :: s3 :: s4 :: s5 :: s6 :: s7 :: s8 :: .ow (.list ds) :: g) k = fs (s0 :: s1 :: s2 :: s3 :: s4 :: s5 :: s6 :: s7 :: s8 :: .ow (.list ds) :: g) fun as g' => muK 9 op as g' k := rfl
@[simp ↓] theorem mk9ow {s0 s1 s2 s3 s4 s5 s6 s7 s8 : Sl} {op : List D → List D → Option (D × List D)} {as ds : List D} : muK 9 op as (s0 :: s1 :: s2 :: s3 :: s4 :: s5 :: s6 :: s7 :: s8 :: .ow (.list ds) :: g) k = mutK (op ds as) fun r ds' => k r (s0 :: s1 :: s2 :: s3 :: s4 :: s5 :: s6 :: s7 :: s8 :: .ow (.list ds') :: g) := by
  show (match op ds as with | some (d, ds') => _ | none => _) = _
  unfold mutK; split <;> rfl
@[simp ↓] theorem pu9ow {s0 s1 s2 s3 s4 s5 s6 s7 s8 : Sl} {ds : List D} : putC 9 fi d (s0 :: s1 :: s2 :: s3 :: s4 :: s5 :: s6 :: s7 :: s8 :: .ow (.list ds) :: g) kT = fi (s0 :: s1 :: s2 :: s3 :: s4 :: s5 :: s6 :: s7 :: s8 :: .ow (.list ds) :: g) fun j g' => puK 9 d j g' kT := rfl
@[simp ↓] theorem pk9ow {s0 s1 s2 s3 s4 s5 s6 s7 s8 : Sl} {ds : List D} {n : Int} : puK 9 d (.int n) (s0 :: s1 :: s2 :: s3 :: s4 :: s5 :: s6 :: s7 :: s8 :: .ow (.list ds) :: g) kT = setK ds n d fun ds' => kT (s0 :: s1 :: s2 :: s3 :: s4 :: s5 :: s6 :: s7 :: s8 :: .ow (.list ds') :: g) := by
  show (match ixN ds.length n with | some m => _ | none => _) = _
  unfold setK; split <;> rfl
@[simp ↓] theorem au9ow {s0 s1 s2 s3 s4 s5 s6 s7 s8 : Sl} {ds : List D} {f : Int → Int → Int} : augT 9 fi fe f (s0 :: s1 :: s2 :: s3 :: s4 :: s5 :: s6 :: s7 :: s8 :: .ow (.list ds) :: g) kT = fi (s0 :: s1 :: s2 :: s3 :: s4 :: s5 :: s6 :: s7 :: s8 :: .ow (.list ds) :: g) fun j g' => auJ 9 fe f j g' kT := rfl
@[simp ↓] theorem aj9ow {s0 s1 s2 s3 s4 s5 s6 s7 s8 : Sl} {ds : List D} {f : Int → Int → Int} {n : Int} : auJ 9 fe f (.int n) (s0 :: s1 :: s2 :: s3 :: s4 :: s5 :: s6 :: s7 :: s8 :: .ow (.list ds) :: g) kT = augK ds n fun x => fe (s0 :: s1 :: s2 :: s3 :: s4 :: s5 :: s6 :: s7 :: s8 :: .ow (.list ds) :: g) fun y g2 => auK 9 f n x y g2 kT := by
  show (match ixN ds.length n with | some m => _ | none => _) = _
  unfold augK; split <;> rfl
@[simp ↓] theorem ak9ow {s0 s1 s2 s3 s4 s5 s6 s7 s8 : Sl} {ds : List D} {f : Int → Int → Int} {n x y : Int} : auK 9 f n x (.int y) (s0 :: s1 :: s2 :: s3 :: s4 :: s5 :: s6 :: s7 :: s8 :: .ow (.list ds) :: g) kT = setK ds n (.int (f x y)) fun ds' => kT (s0 :: s1 :: s2 :: s3 :: s4 :: s5 :: s6 :: s7 :: s8 :: .ow (.list ds') :: g) := by
  show (match ixN ds.length n with | some m => _ | none => _) = _
  unfold setK; split <;> rfl
@[simp ↓] theorem rc9rf {s0 s1 s2 s3 s4 s5 s6 s7 s8 : Sl} {φ : Fd} : callRC 9 φ fs (s0 :: s1 :: s2 :: s3 :: s4 :: s5 :: s6 :: s7 :: s8 :: .rf d :: g) kS = fs (s0 :: s1 :: s2 :: s3 :: s4 :: s5 :: s6 :: s7 :: s8 :: .rf d :: g) fun ds g' => rcK 9 φ ds g' kS := rfl
@[simp ↓] theorem rk9rf {s0 s1 s2 s3 s4 s5 s6 s7 s8 : Sl} {φ : Fd} {ds : List D} : rcK 9 φ ds (s0 :: s1 :: s2 :: s3 :: s4 :: s5 :: s6 :: s7 :: s8 :: .rf d :: g) kS = okR1 (φ (d :: ds)) fun s d1 => kS s (s0 :: s1 :: s2 :: s3 :: s4 :: s5 :: s6 :: s7 :: s8 :: .rf d1 :: g) := by
  show (match φ (d :: ds) with | .ok s [d1] => _ | _ => _) = _
  unfold okR1; split <;> rfl
@[simp ↓] theorem mu9rf {s0 s1 s2 s3 s4 s5 s6 s7 s8 : Sl} {op : List D → List D → Option (D × List D)} {ds : List D} : mutC 9 fs op (s0 :: s1 :: s2 :: s3 :: s4 :: s5 :: s6 :: s7 :: s8 :: .rf (.list ds) :: g) k = fs (s0 :: s1 :: s2 :: s3 :: s4 :: s5 :: s6 :: s7 :: s8 :: .rf (.list ds) :: g) fun as g' => muK 9 op as g' k := rfl
@[simp ↓] theorem mk9rf {s0 s1 s2 s3 s4 s5 s6 s7 s8 : Sl} {op : List D → List D → Option (D × List D)} {as ds : List D} : muK 9 op as (s0 :: s1 :: s2 :: s3 :: s4 :: s5 :: s6 :: s7 :: s8 :: .rf (.list ds) :: g) k = mutK (op ds as) fun r ds' => k r (s0 :: s1 :: s2 :: s3 :: s4 :: s5 :: s6 :: s7 :: s8 :: .rf (.list ds') :: g) := by
  show (match op ds as with | some (d, ds') => _ | none => _) = _
  unfold mutK; split <;> rfl
@[simp ↓] theorem pu9rf {s0 s1 s2 s3 s4 s5 s6 s7 s8 : Sl} {ds : List D} : putC 9 fi d (s0 :: s1 :: s2 :: s3 :: s4 :: s5 :: s6 :: s7 :: s8 :: .rf (.list ds) :: g) kT = fi (s0 :: s1 :: s2 :: s3 :: s4 :: s5 :: s6 :: s7 :: s8 :: .rf (.list ds) :: g) fun j g' => puK 9 d j g' kT := rfl
@[simp ↓] theorem pk9rf {s0 s1 s2 s3 s4 s5 s6 s7 s8 : Sl} {ds : List D} {n : Int} : puK 9 d (.int n) (s0 :: s1 :: s2 :: s3 :: s4 :: s5 :: s6 :: s7 :: s8 :: .rf (.list ds) :: g) kT = setK ds n d fun ds' => kT (s0 :: s1 :: s2 :: s3 :: s4 :: s5 :: s6 :: s7 :: s8 :: .rf (.list ds') :: g) := by
  show (match ixN ds.length n with | some m => _ | none => _) = _
  unfold setK; split <;> rfl
@[simp ↓] theorem au9rf {s0 s1 s2 s3 s4 s5 s6 s7 s8 : Sl} {ds : List D} {f : Int → Int → Int} : augT 9 fi fe f (s0 :: s1 :: s2 :: s3 :: s4 :: s5 :: s6 :: s7 :: s8 :: .rf (.list ds) :: g) kT = fi (s0 :: s1 :: s2 :: s3 :: s4 :: s5 :: s6 :: s7 :: s8 :: .rf (.list ds) :: g) fun j g' => auJ 9 fe f j g' kT := rfl
@[simp ↓] theorem aj9rf {s0 s1 s2 s3 s4 s5 s6 s7 s8 : Sl} {ds : List D} {f : Int → Int → Int} {n : Int} : auJ 9 fe f (.int n) (s0 :: s1 :: s2 :: s3 :: s4 :: s5 :: s6 :: s7 :: s8 :: .rf (.list ds) :: g) kT = augK ds n fun x => fe (s0 :: s1 :: s2 :: s3 :: s4 :: s5 :: s6 :: s7 :: s8 :: .rf (.list ds) :: g) fun y g2 => auK 9 f n x y g2 kT := by
  show (match ixN ds.length n with | some m => _ | none => _) = _
  unfold augK; split <;> rfl
@[simp ↓] theorem ak9rf {s0 s1 s2 s3 s4 s5 s6 s7 s8 : Sl} {ds : List D} {f : Int → Int → Int} {n x y : Int} : auK 9 f n x (.int y) (s0 :: s1 :: s2 :: s3 :: s4 :: s5 :: s6 :: s7 :: s8 :: .rf (.list ds) :: g) kT = setK ds n (.int (f x y)) fun ds' => kT (s0 :: s1 :: s2 :: s3 :: s4 :: s5 :: s6 :: s7 :: s8 :: .rf (.list ds') :: g) := by
  show (match ixN ds.length n with | some m => _ | none => _) = _
  unfold setK; split <;> rfl
@[simp ↓] theorem ag9 {s0 s1 s2 s3 s4 s5 s6 s7 s8 : Sl} {f : Int → Int → Int} {x : Int} : augN 9 fe f (s0 :: s1 :: s2 :: s3 :: s4 :: s5 :: s6 :: s7 :: s8 :: .sh (.int x) :: g) kT = fe (s0 :: s1 :: s2 :: s3 :: s4 :: s5 :: s6 :: s7 :: s8 :: .sh (.int x) :: g) fun y g' => kopO (intO y) g' fun y g' => stC 9 (.sh (.int (f x y))) g' kT := by
  show (fe _ _) = _
  congr 1; funext y g'; cases y <;> rfl
@[simp ↓] theorem rc10ow {s0 s1 s2 s3 s4 s5 s6 s7 s8 s9 : Sl} {φ : Fd} : callRC 10 φ fs (s0 :: s1 :: s2 :: s3 :: s4 :: s5 :: s6 :: s7 :: s8 :: s9 :: .ow d :: g) kS = fs (s0 :: s1 :: s2 :: s3 :: s4 :: s5 :: s6 :: s7 :: s8 :: s9 :: .ow d :: g) fun ds g' => rcK 10 φ ds g' kS := rfl
@[simp ↓] theorem rk10ow {s0 s1 s2 s3 s4 s5 s6 s7 s8 s9 : Sl} {φ : Fd} {ds : List D} : rcK 10 φ ds (s0 :: s1 :: s2 :: s3 :: s4 :: s5 :: s6 :: s7 :: s8 :: s9 :: .ow d :: g) kS = okR1 (φ (d :: ds)) fun s d1 => kS s (s0 :: s1 :: s2 :: s3 :: s4 :: s5 :: s6 :: s7 :: s8 :: s9 :: .ow d1 :: g) := by
  show (match φ (d :: ds) with | .ok s [d1] => _ | _ => _) = _
  unfold okR1; split <;> rfl
@[simp ↓] theorem mu10ow {s0 s1 s2 s3 s4 s5 s6 s7 s8 s9 : Sl} {op : List D → List D → Option (D × List D)} {ds : List D} : mutC 10 fs op (s0 :: s1 :: s2 :: s3 :: s4 :: s5 :: s6 :: s7 :: s8 :: s9 :: .ow (.list ds) :: g) k = fs (s0 :: s1 :: s2 :: s3 :: s4 :: s5 :: s6 :: s7 :: s8 :: s9 :: .ow (.list ds) :: g) fun as g' => muK 10 op as g' k := rfl
@[simp ↓] theorem mk10ow {s0 s1 s2 s3 s4 s5 s6 s7 s8 s9 : Sl} {op : List D → List D → Option (D × List D)} {as ds : List D} : muK 10 op as (s0 :: s1 :: s2 :: s3 :: s4 :: s5 :: s6 :: s7 :: s8 :: s9 :: .ow (.list ds) :: g) k = mutK (op ds as) fun r ds' => k r (s0 :: s1 :: s2 :: s3 :: s4 :: s5 :: s6 :: s7 :: s8 :: s9 :: .ow (.list ds') :: g) := by
  show (match op ds as with | some (d, ds') => _ | none => _) = _
  unfold mutK; split <;> rfl
@[simp ↓] theorem pu10ow {s0 s1 s2 s3 s4 s5 s6 s7 s8 s9 : Sl} {ds : List D} : putC 10 fi d (s0 :: s1 :: s2 :: s3 :: s4 :: s5 :: s6 :: s7 :: s8 :: s9 :: .ow (.list ds) :: g) kT = fi (s0 :: s1 :: s2 :: s3 :: s4 :: s5 :: s6 :: s7 :: s8 :: s9 :: .ow (.list ds) :: g) fun j g' => puK 10 d j g' kT := rfl
@[simp ↓] theorem pk10ow {s0 s1 s2 s3 s4 s5 s6 s7 s8 s9 : Sl} {ds : List D} {n : Int} : puK 10 d (.int n) (s0 :: s1 :: s2 :: s3 :: s4 :: s5 :: s6 :: s7 :: s8 :: s9 :: .ow (.list ds) :: g) kT = setK ds n d fun ds' => kT (s0 :: s1 :: s2 :: s3 :: s4 :: s5 :: s6 :: s7 :: s8 :: s9 :: .ow (.list ds') :: g) := by
  show (match ixN ds.length n with | some m => _ | none => _) = _
  unfold setK; split <;> rfl
@[simp ↓] theorem au10ow {s0 s1 s2 s3 s4 s5 s6 s7 s8 s9 : Sl} {ds : List D} {f : Int → Int → Int} : augT 10 fi fe f (s0 :: s1 :: s2 :: s3 :: s4 :: s5 :: s6 :: s7 :: s8 :: s9 :: .ow (.list ds) :: g) kT = fi (s0 :: s1 :: s2 :: s3 :: s4 :: s5 :: s6 :: s7 :: s8 :: s9 :: .ow (.list ds) :: g) fun j g' => auJ 10 fe f j g' kT := rfl
@[simp ↓] theorem aj10ow {s0 s1 s2 s3 s4 s5 s6 s7 s8 s9 : Sl} {ds : List D} {f : Int → Int → Int} {n : Int} : auJ 10 fe f (.int n) (s0 :: s1 :: s2 :: s3 :: s4 :: s5 :: s6 :: s7 :: s8 :: s9 :: .ow (.list ds) :: g) kT = augK ds n fun x => fe (s0 :: s1 :: s2 :: s3 :: s4 :: s5 :: s6 :: s7 :: s8 :: s9 :: .ow (.list ds) :: g) fun y g2 => auK 10 f n x y g2 kT := by
  show (match ixN ds.length n with | some m => _ | none => _) = _
  unfold augK; split <;> rfl
@[simp ↓] theorem ak10ow {s0 s1 s2 s3 s4 s5 s6 s7 s8 s9 : Sl} {ds : List D} {f : Int → Int → Int} {n x y : Int} : auK 10 f n x (.int y) (s0 :: s1 :: s2 :: s3 :: s4 :: s5 :: s6 :: s7 :: s8 :: s9 :: .ow (.list ds) :: g) kT = setK ds n (.int (f x y)) fun ds' => kT (s0 :: s1 :: s2 :: s3 :: s4 :: s5 :: s6 :: s7 :: s8 :: s9 :: .ow (.list ds') :: g) := by
  show (match ixN ds.length n with | some m => _ | none => _) = _
  unfold setK; split <;> rfl
@[simp ↓] theorem rc10rf {s0 s1 s2 s3 s4 s5 s6 s7 s8 s9 : Sl} {φ : Fd} : callRC 10 φ fs (s0 :: s1 :: s2 :: s3 :: s4 :: s5 :: s6 :: s7 :: s8 :: s9 :: .rf d :: g) kS = fs (s0 :: s1 :: s2 :: s3 :: s4 :: s5 :: s6 :: s7 :: s8 :: s9 :: .rf d :: g) fun ds g' => rcK 10 φ ds g' kS := rfl
@[simp ↓] theorem rk10rf {s0 s1 s2 s3 s4 s5 s6 s7 s8 s9 : Sl} {φ : Fd} {ds : List D} : rcK 10 φ ds (s0 :: s1 :: s2 :: s3 :: s4 :: s5 :: s6 :: s7 :: s8 :: s9 :: .rf d :: g) kS = okR1 (φ (d :: ds)) fun s d1 => kS s (s0 :: s1 :: s2 :: s3 :: s4 :: s5 :: s6 :: s7 :: s8 :: s9 :: .rf d1 :: g) := by
  show (match φ (d :: ds) with | .ok s [d1] => _ | _ => _) = _
  unfold okR1; split <;> rfl
@[simp ↓] theorem mu10rf {s0 s1 s2 s3 s4 s5 s6 s7 s8 s9 : Sl} {op : List D → List D → Option (D × List D)} {ds : List D} : mutC 10 fs op (s0 :: s1 :: s2 :: s3 :: s4 :: s5 :: s6 :: s7 :: s8 :: s9 :: .rf (.list ds) :: g) k = fs (s0 :: s1 :: s2 :: s3 :: s4 :: s5 :: s6 :: s7 :: s8 :: s9 :: .rf (.list ds) :: g) fun as g' => muK 10 op as g' k := rfl
@[simp ↓] theorem mk10rf {s0 s1 s2 s3 s4 s5 s6 s7 s8 s9 : Sl} {op : List D → List D → Option (D × List D)} {as ds : List D} : muK 10 op as (s0 :: s1 :: s2 :: s3 :: s4 :: s5 :: s6 :: s7 :: s8 :: s9 :: .rf (.list ds) :: g) k = mutK (op ds as) fun r ds' => k r (s0 :: s1 :: s2 :: s3 :: s4 :: s5 :: s6 :: s7 :: s8 :: s9 :: .rf (.list ds') :: g) := by
  show (match op ds as with | some (d, ds') => _ | none => _) = _
  unfold mutK; split <;> rfl
@[simp ↓] theorem pu10rf {s0 s1 s2 s3 s4 s5 s6 s7 s8 s9 : Sl} {ds : List D} : putC 10 fi d (s0 :: s1 :: s2 :: s3 :: s4 :: s5 :: s6 :: s7 :: s8 :: s9 :: .rf (.list ds) :: g) kT = fi (s0 :: s1 :: s2 :: s3 :: s4 :: s5 :: s6 :: s7 :: s8 :: s9 :: .rf (.list ds) :: g) fun j g' => puK 10 d j g' kT := rfl
@[simp ↓] theorem pk10rf {s0 s1 s2 s3 s4 s5 s6 s7 s8 s9 : Sl} {ds : List D} {n : Int} : puK 10 d (.int n) (s0 :: s1 :: s2 :: s3 :: s4 :: s5 :: s6 :: s7 :: s8 :: s9 :: .rf (.list ds) :: g) kT = setK ds n d fun ds' => kT (s0 :: s1 :: s2 :: s3 :: s4 :: s5 :: s6 :: s7 :: s8 :: s9 :: .rf (.list ds') :: g) := by
  show (match ixN ds.length n with | some m => _ | none => _) = _
  unfold setK; split <;> rfl
@[simp ↓] theorem au10rf {s0 s1 s2 s3 s4 s5 s6 s7 s8 s9 : Sl} {ds : List D} {f : Int → Int → Int} : augT 10 fi fe f (s0 :: s1 :: s2 :: s3 :: s4 :: s5 :: s6 :: s7 :: s8 :: s9 :: .rf (.list ds) :: g) kT = fi (s0 :: s1 :: s2 :: s3 :: s4 :: s5 :: s6 :: s7 :: s8 :: s9 :: .rf (.list ds) :: g) fun j g' => auJ 10 fe f j g' kT := rfl
@[simp ↓] theorem aj10rf {s0 s1 s2 s3 s4 s5 s6 s7 s8 s9 : Sl} {ds : List D} {f : Int → Int → Int} {n : Int} : auJ 10 fe f (.int n) (s0 :: s1 :: s2 :: s3 :: s4 :: s5 :: s6 :: s7 :: s8 :: s9 :: .rf (.list ds) :: g) kT = augK ds n fun x => fe (s0 :: s1 :: s2 :: s3 :: s4 :: s5 :: s6 :: s7 :: s8 :: s9 :: .rf (.list ds) :: g) fun y g2 => auK 10 f n x y g2 kT := by
  show (match ixN ds.length n with | some m => _ | none => _) = _
  unfold augK; split <;> rfl
@[simp ↓] theorem ak10rf {s0 s1 s2 s3 s4 s5 s6 s7 s8 s9 : Sl} {ds : List D} {f : Int → Int → Int} {n x y : Int} : auK 10 f n x (.int y) (s0 :: s1 :: s2 :: s3 :: s4 :: s5 :: s6 :: s7 :: s8 :: s9 :: .rf (.list ds) :: g) kT = setK ds n (.int (f x y)) fun ds' => kT (s0 :: s1 :: s2 :: s3 :: s4 :: s5 :: s6 :: s7 :: s8 :: s9 :: .rf (.list ds') :: g) := by
  show (match ixN ds.length n with | some m => _ | none => _) = _
  unfold setK; split <;> rfl
@[simp ↓] theorem ag10 {s0 s1 s2 s3 s4 s5 s6 s7 s8 s9 : Sl} {f : Int → Int → Int} {x : Int} : augN 10 fe f (s0 :: s1 :: s2 :: s3 :: s4 :: s5 :: s6 :: s7 :: s8 :: s9 :: .sh (.int x) :: g) kT = fe (s0 :: s1 :: s2 :: s3 :: s4 :: s5 :: s6 :: s7 :: s8 :: s9 :: .sh (.int x) :: g) fun y g' => kopO (intO y) g' fun y g' => stC 10 (.sh (.int (f x y))) g' kT := by
  show (fe _ _) = _
  congr 1; funext y g'; cases y <;> rfl
@[simp ↓] theorem rc11ow {s0 s1 s2 s3 s4 s5 s6 s7 s8 s9 s10 : Sl} {φ : Fd} : callRC 11 φ fs (s0 :: s1 :: s2 :: s3 :: s4 :: s5 :: s6 :: s7 :: s8 :: s9 :: s10 :: .ow d :: g) kS = fs (s0 :: s1 :: s2 :: s3 :: s4 :: s5 :: s6 :: s7 :: s8 :: s9 :: s10 :: .ow d :: g) fun ds g' => rcK 11 φ ds g' kS := rfl
@[simp ↓] theorem rk11ow {s0 s1 s2 s3 s4 s5 s6 s7 s8 s9 s10 : Sl} {φ : Fd} {ds : List D} : rcK 11 φ ds (s0 :: s1 :: s2 :: s3 :: s4 :: s5 :: s6 :: s7 :: s8 :: s9 :: s10 :: .ow d :: g) kS = okR1 (φ (d :: ds)) fun s d1 => kS s (s0 :: s1 :: s2 :: s3 :: s4 :: s5 :: s6 :: s7 :: s8 :: s9 :: s10 :: .ow d1 :: g) := by
  show (match φ (d :: ds) with | .ok s [d1] => _ | _ => _) = _
  unfold okR1; split <;> rfl
@[simp ↓] theorem mu11ow {s0 s1 s2 s3 s4 s5 s6 s7 s8 s9 s10 : Sl} {op : List D → List D → Option (D × List D)} {ds : List D} : mutC 11 fs op (s0 :: s1 :: s2 :: s3 :: s4 :: s5 :: s6 :: s7 :: s8 :: s9 :: s10 :: .ow (.list ds) :: g) k = fs (s0 :: s1 :: s2 :: s3 :: s4 :: s5 :: s6 :: s7 :: s8 :: s9 :: s10 :: .ow (.list ds) :: g) fun as g' => muK 11 op as g' k := rfl
@[simp ↓] theorem mk11ow {s0 s1 s2 s3 s4 s5 s6 s7 s8 s9 s10 : Sl} {op : List D → List D → Option (D × List D)} {as ds : List D} : muK 11 op as (s0 :: s1 :: s2 :: s3 :: s4 :: s5 :: s6 :: s7 :: s8 :: s9 :: s10 :: .ow (.list ds) :: g) k = mutK (op ds as) fun r ds' => k r (s0 :: s1 :: s2 :: s3 :: s4 :: s5 :: s6 :: s7 :: s8 :: s9 :: s10 :: .ow (.list ds') :: g) := by
  show (match op ds as with | some (d, ds') => _ | none => _) = _
  unfold mutK; split <;> rfl
@[simp ↓] theorem pu11ow {s0 s1 s2 s3 s4 s5 s6 s7 s8 s9 s10 : Sl} {ds : List D} : putC 11 fi d (s0 :: s1 :: s2 :: s3 :: s4 :: s5 :: s6 :: s7 :: s8 :: s9 :: s10 :: .ow (.list ds) :: g) kT = fi (s0 :: s1 :: s2 :: s3 :: s4 :: s5 :: s6 :: s7 :: s8 :: s9 :: s10 :: .ow (.list ds) :: g) fun j g' => puK 11 d j g' kT := rfl
@[simp ↓] theorem pk11ow {s0 s1 s2 s3 s4 s5 s6 s7 s8 s9 s10 : Sl} {ds : List D} {n : Int} : puK 11 d (.int n) (s0 :: s1 :: s2 :: s3 :: s4 :: s5 :: s6 :: s7 :: s8 :: s9 :: s10 :: .ow (.list ds) :: g) kT = setK ds n d fun ds' => kT (s0 :: s1 :: s2 :: s3 :: s4 :: s5 :: s6 :: s7 :: s8 :: s9 :: s10 :: .ow (.list ds') :: g) := by
  show (match ixN ds.length n with | some m => _ | none => _) = _
  unfold setK; split <;> rfl
@[simp ↓] theorem au11ow {s0 s1 s2 s3 s4 s5 s6 s7 s8 s9 s10 : Sl} {ds : List D} {f : Int → Int → Int} : augT 11 fi fe f (s0 :: s1 :: s2 :: s3 :: s4 :: s5 :: s6 :: s7 :: s8 :: s9 :: s10 :: .ow (.list ds) :: g) kT = fi (s0 :: s1 :: s2 :: s3 :: s4 :: s5 :: s6 :: s7 :: s8 :: s9 :: s10 :: .ow (.list ds) :: g) fun j g' => auJ 11 fe f j g' kT := rfl
@[simp ↓] theorem aj11ow {s0 s1 s2 s3 s4 s5 s6 s7 s8 s9 s10 : Sl} {ds : List D} {f : Int → Int → Int} {n : Int} : auJ 11 fe f (.int n) (s0 :: s1 :: s2 :: s3 :: s4 :: s5 :: s6 :: s7 :: s8 :: s9 :: s10 :: .ow (.list ds) :: g) kT = augK ds n fun x => fe (s0 :: s1 :: s2 :: s3 :: s4 :: s5 :: s6 :: s7 :: s8 :: s9 :: s10 :: .ow (.list ds) :: g) fun y g2 => auK 11 f n x y g2 kT := by
  show (match ixN ds.length n with | some m => _ | none => _) = _
  unfold augK; split <;> rfl
@[simp ↓] theorem ak11ow {s0 s1 s2 s3 s4 s5 s6 s7 s8 s9 s10 : Sl} {ds : List D} {f : Int → Int → Int} {n x y : Int} : auK 11 f n x (.int y) (s0 :: s1 :: s2 :: s3 :: s4 :: s5 :: s6 :: s7 :: s8 :: s9 :: s10 :: .ow (.list ds) :: g) kT = setK ds n (.int (f x y)) fun ds' => kT (s0 :: s1 :: s2 :: s3 :: s4 :: s5 :: s6 :: s7 :: s8 :: s9 :: s10 :: .ow (.list ds') :: g) := by
  show (match ixN ds.length n with | some m => _ | none => _) = _
  unfold setK; split <;> rfl
@[simp ↓] theorem rc11rf {s0 s1 s2 s3 s4 s5 s6 s7 s8 s9 s10 : Sl} {φ : Fd} : callRC 11 φ fs (s0 :: s1 :: s2 :: s3 :: s4 :: s5 :: s6 :: s7 :: s8 :: s9 :: s10 :: .rf d :: g) kS = fs (s0 :: s1 :: s2 :: s3 :: s4 :: s5 :: s6 :: s7 :: s8 :: s9 :: s10 :: .rf d :: g) fun ds g' => rcK 11 φ ds g' kS := rfl
@[simp ↓] theorem rk11rf {s0 s1 s2 s3 s4 s5 s6 s7 s8 s9 s10 : Sl} {φ : Fd} {ds : List D} : rcK 11 φ ds (s0 :: s1 :: s2 :: s3 :: s4 :: s5 :: s6 :: s7 :: s8 :: s9 :: s10 :: .rf d :: g) kS = okR1 (φ (d :: ds)) fun s d1 => kS s (s0 :: s1 :: s2 :: s3 :: s4 :: s5 :: s6 :: s7 :: s8 :: s9 :: s10 :: .rf d1 :: g) := by
  show (match φ (d :: ds) with | .ok s [d1] => _ | _ => _) = _
  unfold okR1; split <;> rfl
@[simp ↓] theorem mu11rf {s0 s1 s2 s3 s4 s5 s6 s7 s8 s9 s10 : Sl} {op : List D → List D → Option (D × List D)} {ds : List D} : mutC 11 fs op (s0 :: s1 :: s2 :: s3 :: s4 :: s5 :: s6 :: s7 :: s8 :: s9 :: s10 :: .rf (.list ds) :: g) k = fs (s0 :: s1 :: s2 :: s3 :: s4 :: s5 :: s6 :: s7 :: s8 :: s9 :: s10 :: .rf (.list ds) :: g) fun as g' => muK 11 op as g' k := rfl
@[simp ↓] theorem mk11rf {s0 s1 s2 s3 s4 s5 s6 s7 s8 s9 s10 : Sl} {op : List D → List D → Option (D × List D)} {as ds : List D} : muK 11 op as (s0 :: s1 :: s2 :: s3 :: s4 :: s5 :: s6 :: s7 :: s8 :: s9 :: s10 :: .rf (.list ds) :: g) k = mutK (op ds as) fun r ds' => k r (s0 :: s1 :: s2 :: s3 :: s4 :: s5 :: s6 :: s7 :: s8 :: s9 :: s10 :: .rf (.list ds') :: g) := by
  show (match op ds as with | some (d, ds') => _ | none => _) = _
  unfold mutK; split <;> rfl
@[simp ↓] theorem pu11rf {s0 s1 s2 s3 s4 s5 s6 s7 s8 s9 s10 : Sl} {ds : List D} : putC 11 fi d (s0 :: s1 :: s2 :: s3 :: s4 :: s5 :: s6 :: s7 :: s8 :: s9 :: s10 :: .rf (.list ds) :: g) kT = fi (s0 :: s1 :: s2 :: s3 :: s4 :: s5 :: s6 :: s7 :: s8 :: s9 :: s10 :: .rf (.list ds) :: g) fun j g' => puK 11 d j g' kT := rfl
@[simp ↓] theorem pk11rf {s0 s1 s2 s3 s4 s5 s6 s7 s8 s9 s10 : Sl} {ds : List D} {n : Int} : puK 11 d (.int n) (s0 :: s1 :: s2 :: s3 :: s4 :: s5 :: s6 :: s7 :: s8 :: s9 :: s10 :: .rf (.list ds) :: g) kT = setK ds n d fun ds' => kT (s0 :: s1 :: s2 :: s3 :: s4 :: s5 :: s6 :: s7 :: s8 :: s9 :: s10 :: .rf (.list ds') :: g) := by
  show (match ixN ds.length n with | some m => _ | none => _) = _
  unfold setK; split <;> rfl
@[simp ↓] theorem au11rf {s0 s1 s2 s3 s4 s5 s6 s7 s8 s9 s10 : Sl} {ds : List D} {f : Int → Int → Int} : augT 11 fi fe f (s0 :: s1 :: s2 :: s3 :: s4 :: s5 :: s6 :: s7 :: s8 :: s9 :: s10 :: .rf (.list ds) :: g) kT = fi (s0 :: s1 :: s2 :: s3 :: s4 :: s5 :: s6 :: s7 :: s8 :: s9 :: s10 :: .rf (.list ds) :: g) fun j g' => auJ 11 fe f j g' kT := rfl
@[simp ↓] theorem aj11rf {s0 s1 s2 s3 s4 s5 s6 s7 s8 s9 s10 : Sl} {ds : List D} {f : Int → Int → Int} {n : Int} : auJ 11 fe f (.int n) (s0 :: s1 :: s2 :: s3 :: s4 :: s5 :: s6 :: s7 :: s8 :: s9 :: s10 :: .rf (.list ds) :: g) kT = augK ds n fun x => fe (s0 :: s1 :: s2 :: s3 :: s4 :: s5 :: s6 :: s7 :: s8 :: s9 :: s10 :: .rf (.list ds) :: g) fun y g2 => auK 11 f n x y g2 kT := by
  show (match ixN ds.length n with | some m => _ | none => _) = _
  unfold augK; split <;> rfl
@[simp ↓] theorem ak11rf {s0 s1 s2 s3 s4 s5 s6 s7 s8 s9 s10 : Sl} {ds : List D} {f : Int → Int → Int} {n x y : Int} : auK 11 f n x (.int y) (s0 :: s1 :: s2 :: s3 :: s4 :: s5 :: s6 :: s7 :: s8 :: s9 :: s10 :: .rf (.list ds) :: g) kT = setK ds n (.int (f x y)) fun ds' => kT (s0 :: s1 :: s2 :: s3 :: s4 :: s5 :: s6 :: s7 :: s8 :: s9 :: s10 :: .rf (.list ds') :: g) := by
  show (match ixN ds.length n with | some m => _ | none => _) = _
  unfold setK; split <;> rfl
@[simp ↓] theorem ag11 {s0 s1 s2 s3 s4 s5 s6 s7 s8 s9 s10 : Sl} {f : Int → Int → Int} {x : Int} : augN 11 fe f (s0 :: s1 :: s2 :: s3 :: s4 :: s5 :: s6 :: s7 :: s8 :: s9 :: s10 :: .sh (.int x) :: g) kT = fe (s0 :: s1 :: s2 :: s3 :: s4 :: s5 :: s6 :: s7 :: s8 :: s9 :: s10 :: .sh (.int x) :: g) fun y g' => kopO (intO y) g' fun y g' => stC 11 (.sh (.int (f x y))) g' kT := by
  show (fe _ _) = _
  congr 1; funext y g'; cases y <;> rfl
@[simp ↓] theorem rc12ow {s0 s1 s2 s3 s4 s5 s6 s7 s8 s9 s10 s11 : Sl} {φ : Fd} : callRC 12 φ fs (s0 :: s1 :: s2 :: s3 :: s4 :: s5 :: s6 :: s7 :: s8 :: s9 :: s10 :: s11 :: .ow d :: g) kS = fs (s0 :: s1 :: s2 :: s3 :: s4 :: s5 :: s6 :: s7 :: s8 :: s9 :: s10 :: s11 :: .ow d :: g) fun ds g' => rcK 12 φ ds g' kS := rfl
@[simp ↓] theorem rk12ow {s0 s1 s2 s3 s4 s5 s6 s7 s8 s9 s10 s11 : Sl} {φ : Fd} {ds : List D} : rcK 12 φ ds (s0 :: s1 :: s2 :: s3 :: s4 :: s5 :: s6 :: s7 :: s8 :: s9 :: s10 :: s11 :: .ow d :: g) kS = okR1 (φ (d :: ds)) fun s d1 => kS s (s0 :: s1 :: s2 :: s3 :: s4 :: s5 :: s6 :: s7 :: s8 :: s9 :: s10 :: s11 :: .ow d1 :: g) := by
  show (match φ (d :: ds) with | .ok s [d1] => _ | _ => _) = _
  unfold okR1; split <;> rfl
@[simp ↓] theorem mu12ow {s0 s1 s2 s3 s4 s5 s6 s7 s8 s9 s10 s11 : Sl} {op : List D → List D → Option (D × List D)} {ds : List D} : mutC 12 fs op (s0 :: s1 :: s2 :: s3 :: s4 :: s5 :: s6 :: s7 :: s8 :: s9 :: s10 :: s11 :: .ow (.list ds) :: g) k = fs (s0 :: s1 :: s2 :: s3 :: s4 :: s5 :: s6 :: s7 :: s8 :: s9 :: s10 :: s11 :: .ow (.list ds) :: g) fun as g' => muK 12 op as g' k := rfl
@[simp ↓] theorem mk12ow {s0 s1 s2 s3 s4 s5 s6 s7 s8 s9 s10 s11 : Sl} {op : List D → List D → Option (D × List D)} {as ds : List D} : muK 12 op as (s0 :: s1 :: s2 :: s3 :: s4 :: s5 :: s6 :: s7 :: s8 :: s9 :: s10 :: s11 :: .ow (.list ds) :: g) k = mutK (op ds as) fun r ds' => k r (s0 :: s1 :: s2 :: s3 :: s4 :: s5 :: s6 :: s7 :: s8 :: s9 :: s10 :: s11 :: .ow (.list ds') :: g) := by
  show (match op ds as with | some (d, ds') => _ | none => _) = _
  unfold mutK; split <;> rfl
@[simp ↓] theorem pu12ow {s0 s1 s2 s3 s4 s5 s6 s7 s8 s9 s10 s11 : Sl} {ds : List D} : putC 12 fi d (s0 :: s1 :: s2 :: s3 :: s4 :: s5 :: s6 :: s7 :: s8 :: s9 :: s10 :: s11 :: .ow (.list ds) :: g) kT = fi (s0 :: s1 :: s2 :: s3 :: s4 :: s5 :: s6 :: s7 :: s8 :: s9 :: s10 :: s11 :: .ow (.list ds) :: g) fun j g' => puK 12 d j g' kT := rfl
@[simp ↓] theorem pk12ow {s0 s1 s2 s3 s4 s5 s6 s7 s8 s9 s10 s11 : Sl} {ds : List D} {n : Int} : puK 12 d (.int n) (s0 :: s1 :: s2 :: s3 :: s4 :: s5 :: s6 :: s7 :: s8 :: s9 :: s10 :: s11 :: .ow (.list ds) :: g) kT = setK ds n d fun ds' => kT (s0 :: s1 :: s2 :: s3 :: s4 :: s5 :: s6 :: s7 :: s8 :: s9 :: s10 :: s11 :: .ow (.list ds') :: g) := by
  show (match ixN ds.length n with | some m => _ | none => _) = _
  unfold setK; split <;> rfl
@[simp ↓] theorem au12ow {s0 s1 s2 s3 s4 s5 s6 s7 s8 s9 s10 s11 : Sl} {ds : List D} {f : Int → Int → Int} : augT 12 fi fe f (s0 :: s1 :: s2 :: s3 :: s4 :: s5 :: s6 :: s7 :: s8 :: s9 :: s10 :: s11 :: .ow (.list ds) :: g) kT = fi (s0 :: s1 :: s2 :: s3 :: s4 :: s5 :: s6 :: s7 :: s8 :: s9 :: s10 :: s11 :: .ow (.list ds) :: g) fun j g' => auJ 12 fe f j g' kT := rfl
@[simp ↓] theorem aj12ow {s0 s1 s2 s3 s4 s5 s6 s7 s8 s9 s10 s11 : Sl} {ds : List D} {f : Int → Int → Int} {n : Int} : auJ 12 fe f (.int n) (s0 :: s1 :: s2 :: s3 :: s4 :: s5 :: s6 :: s7 :: s8 :: s9 :: s10 :: s11 :: .ow (.list ds) :: g) kT = augK ds n fun x => fe (s0 :: s1 :: s2 :: s3 :: s4 :: s5 :: s6 :: s7 :: s8 :: s9 :: s10 :: s11 :: .ow (.list ds) :: g) fun y g2 => auK 12 f n x y g2 kT := by
  show (match ixN ds.length n with | some m => _ | none => _) = _
  unfold augK; split <;> rfl
@[simp ↓] theorem ak12ow {s0 s1 s2 s3 s4 s5 s6 s7 s8 s9 s10 s11 : Sl} {ds : List D} {f : Int → Int → Int} {n x y : Int} : auK 12 f n x (.int y) (s0 :: s1 :: s2 :: s3 :: s4 :: s5 :: s6 :: s7 :: s8 :: s9 :: s10 :: s11 :: .ow (.list ds) :: g) kT = setK ds n (.int (f x y)) fun ds' => kT (s0 :: s1 :: s2 :: s3 :: s4 :: s5 :: s6 :: s7 :: s8 :: s9 :: s10 :: s11 :: .ow (.list ds') :: g) := by
  show (match ixN ds.length n with | some m => _ | none => _) = _
  unfold setK; split <;> rfl
@[simp ↓] theorem rc12rf {s0 s1 s2 s3 s4 s5 s6 s7 s8 s9 s10 s11 : Sl} {φ : Fd} : callRC 12 φ fs (s0 :: s1 :: s2 :: s3 :: s4 :: s5 :: s6 :: s7 :: s8 :: s9 :: s10 :: s11 :: .rf d :: g) kS = fs (s0 :: s1 :: s2 :: s3 :: s4 :: s5 :: s6 :: s7 :: s8 :: s9 :: s10 :: s11 :: .rf d :: g) fun ds g' => rcK 12 φ ds g' kS := rfl
@[simp ↓] theorem rk12rf {s0 s1 s2 s3 s4 s5 s6 s7 s8 s9 s10 s11 : Sl} {φ : Fd} {ds : List D} : rcK 12 φ ds (s0 :: s1 :: s2 :: s3 :: s4 :: s5 :: s6 :: s7 :: s8 :: s9 :: s10 :: s11 :: .rf d :: g) kS = okR1 (φ (d :: ds)) fun s d1 => kS s (s0 :: s1 :: s2 :: s3 :: s4 :: s5 :: s6 :: s7 :: s8 :: s9 :: s10 :: s11 :: .rf d1 :: g) := by
  show (match φ (d :: ds) with | .ok s [d1] => _ | _ => _) = _
  unfold okR1; split <;> rfl
@[simp ↓] theorem mu12rf {s0 s1 s2 s3 s4 s5 s6 s7 s8 s9 s10 s11 : Sl} {op : List D → List D → Option (D × List D)} {ds : List D} : mutC 12 fs op (s0 :: s1 :: s2 :: s3 :: s4 :: s5 :: s6 :: s7 :: s8 :: s9 :: s10 :: s11 :: .rf (.list ds) :: g) k = fs (s0 :: s1 :: s2 :: s3 :: s4 :: s5 :: s6 :: s7 :: s8 :: s9 :: s10 :: s11 :: .rf (.list ds) :: g) fun as g' => muK 12 op as g' k := rfl
@[simp ↓] theorem mk12rf {s0 s1 s2 s3 s4 s5 s6 s7 s8 s9 s10 s11 : Sl} {op : List D → List D → Option (D × List D)} {as ds : List D} : muK 12 op as (s0 :: s1 :: s2 :: s3 :: s4 :: s5 :: s6 :: s7 :: s8 :: s9 :: s10 :: s11 :: .rf (.list ds) :: g) k = mutK (op ds as) fun r ds' => k r (s0 :: s1 :: s2 :: s3 :: s4 :: s5 :: s6 :: s7 :: s8 :: s9 :: s10 :: s11 :: .rf (.list ds') :: g) := by
  show (match op ds as with | some (d, ds') => _ | none => _) = _
  unfold mutK; split <;> rfl
@[simp ↓] theorem pu12rf {s0 s1 s2 s3 s4 s5 s6 s7 s8 s9 s10 s11 : Sl} {ds : List D} : putC 12 fi d (s0 :: s1 :: s2 :: s3 :: s4 :: s5 :: s6 :: s7 :: s8 :: s9 :: s10 :: s11 :: .rf (.list ds) :: g) kT = fi (s0 :: s1 :: s2 :: s3 :: s4 :: s5 :: s6 :: s7 :: s8 :: s9 :: s10 :: s11 :: .rf (.list ds) :: g) fun j g' => puK 12 d j g' kT := rfl
@[simp ↓] theorem pk12rf {s0 s1 s2 s3 s4 s5 s6 s7 s8 s9 s10 s11 : Sl} {ds : List D} {n : Int} : puK 12 d (.int n) (s0 :: s1 :: s2 :: s3 :: s4 :: s5 :: s6 :: s7 :: s8 :: s9 :: s10 :: s11 :: .rf (.list ds) :: g) kT = setK ds n d fun ds' => kT (s0 :: s1 :: s2 :: s3 :: s4 :: s5 :: s6 :: s7 :: s8 :: s9 :: s10 :: s11 :: .rf (.list ds') :: g) := by
  show (match ixN ds.length n with | some m => _ | none => _) = _
  unfold setK; split <;> rfl
@[simp ↓] theorem au12rf {s0 s1 s2 s3 s4 s5 s6 s7 s8 s9 s10 s11 : Sl} {ds : List D} {f : Int → Int → Int} : augT 12 fi fe f (s0 :: s1 :: s2 :: s3 :: s4 :: s5 :: s6 :: s7 :: s8 :: s9 :: s10 :: s11 :: .rf (.list ds) :: g) kT = fi (s0 :: s1 :: s2 :: s3 :: s4 :: s5 :: s6 :: s7 :: s8 :: s9 :: s10 :: s11 :: .rf (.list ds) :: g) fun j g' => auJ 12 fe f j g' kT := rfl
@[simp ↓] theorem aj12rf {s0 s1 s2 s3 s4 s5 s6 s7 s8 s9 s10 s11 : Sl} {ds : List D} {f : Int → Int → Int} {n : Int} : auJ 12 fe f (.int n) (s0 :: s1 :: s2 :: s3 :: s4 :: s5 :: s6 :: s7 :: s8 :: s9 :: s10 :: s11 :: .rf (.list ds) :: g) kT = augK ds n fun x => fe (s0 :: s1 :: s2 :: s3 :: s4 :: s5 :: s6 :: s7 :: s8 :: s9 :: s10 :: s11 :: .rf (.list ds) :: g) fun y g2 => auK 12 f n x y g2 kT := by
  show (match ixN ds.length n with | some m => _ | none => _) = _
  unfold augK; split <;> rfl
@[simp ↓] theorem ak12rf {s0 s1 s2 s3 s4 s5 s6 s7 s8 s9 s10 s11 : Sl} {ds : List D} {f : Int → Int → Int} {n x y : Int} : auK 12 f n x (.int y) (s0 :: s1 :: s2 :: s3 :: s4 :: s5 :: s6 :: s7 :: s8 :: s9 :: s10 :: s11 :: .rf (.list ds) :: g) kT = setK ds n (.int (f x y)) fun ds' => kT (s0 :: s1 :: s2 :: s3 :: s4 :: s5 :: s6 :: s7 :: s8 :: s9 :: s10 :: s11 :: .rf (.list ds') :: g) := by
  show (match ixN ds.length n with | some m => _ | none => _) = _
  unfold setK; split <;> rfl
@[simp ↓] theorem ag12 {s0 s1 s2 s3 s4 s5 s6 s7 s8 s9 s10 s11 : Sl} {f : Int → Int → Int} {x : Int} : augN 12 fe f (s0 :: s1 :: s2 :: s3 :: s4 :: s5 :: s6 :: s7 :: s8 :: s9 :: s10 :: s11 :: .sh (.int x) :: g) kT = fe (s0 :: s1 :: s2 :: s3 :: s4 :: s5 :: s6 :: s7 :: s8 :: s9 :: s10 :: s11 :: .sh (.int x) :: g) fun y g' => kopO (intO y) g' fun y g' => stC 12 (.sh (.int (f x y))) g' kT := by
  show (fe _ _) = _
  congr 1; funext y g'; cases y <;> rfl
@[simp ↓] theorem rc13ow {s0 s1 s2 s3 s4 s5 s6 s7 s8 s9 s10 s11 s12 : Sl} {φ : Fd} : callRC 13 φ fs (s0 :: s1 :: s2 :: s3 :: s4 :: s5 :: s6 :: s7 :: s8 :: s9 :: s10 :: s11 :: s12 :: .ow d :: g) kS = fs (s0 :: s1 :: s2 :: s3 :: s4 :: s5 :: s6 :: s7 :: s8 :: s9 :: s10 :: s11 :: s12 :: .ow d :: g) fun ds g' => rcK 13 φ ds g' kS := rfl
@[simp ↓] theorem rk13ow {s0 s1 s2 s3 s4 s5 s6 s7 s8 s9 s10 s11 s12 : Sl} {φ : Fd} {ds : List D} : rcK 13 φ ds (s0 :: s1 :: s2 :: s3 :: s4 :: s5 :: s6 :: s7 :: s8 :: s9 :: s10 :: s11 :: s12 :: .ow d :: g) kS = okR1 (φ (d :: ds)) fun s d1 => kS s (s0 :: s1 :: s2 :: s3 :: s4 :: s5 :: s6 :: s7 :: s8 :: s9 :: s10 :: s11 :: s12 :: .ow d1 :: g) := by
  show (match φ (d :: ds) with | .ok s [d1] => _ | _ => _) = _
  unfold okR1; split <;> rfl
@[simp ↓] theorem mu13ow {s0 s1 s2 s3 s4 s5 s6 s7 s8 s9 s10 s11 s12 : Sl} {op : List D → List D → Option (D × List D)} {ds : List D} : mutC 13 fs op (s0 :: s1 :: s2 :: s3 :: s4 :: s5 :: s6 :: s7 :: s8 :: s9 :: s10 :: s11 :: s12 :: .ow (.list ds) :: g) k = fs (s0 :: s1 :: s2 :: s3 :: s4 :: s5 :: s6 :: s7 :: s8 :: s9 :: s10 :: s11 :: s12 :: .ow (.list ds) :: g) fun as g' => muK 13 op as g' k := rfl
@[simp ↓] theorem mk13ow {s0 s1 s2 s3 s4 s5 s6 s7 s8 s9 s10 s11 s12 : Sl} {op : List D → List D → Option (D × List D)} {as ds : List D} : muK 13 op as (s0 :: s1 :: s2 :: s3 :: s4 :: s5 :: s6 :: s7 :: s8 :: s9 :: s10 :: s11 :: s12 :: .ow (.list ds) :: g) k = mutK (op ds as) fun r ds' => k r (s0 :: s1 :: s2 :: s3 :: s4 :: s5 :: s6 :: s7 :: s8 :: s9 :: s10 :: s11 :: s12 :: .ow (.list ds') :: g) := by
  show (match op ds as with | some (d, ds') => _ | none => _) = _
  unfold mutK; split <;> rfl
@[simp ↓] theorem pu13ow {s0 s1 s2 s3 s4 s5 s6 s7 s8 s9 s10 s11 s12 : Sl} {ds : List D} : putC 13 fi d (s0 :: s1 :: s2 :: s3 :: s4 :: s5 :: s6 :: s7 :: s8 :: s9 :: s10 :: s11 :: s12 :: .ow (.list ds) :: g) kT = fi (s0 :: s1 :: s2 :: s3 :: s4 :: s5 :: s6 :: s7 :: s8 :: s9 :: s10 :: s11 :: s12 :: .ow (.list ds) :: g) fun j g' => puK 13 d j g' kT := rfl
@[simp ↓] theorem pk13ow {s0 s1 s2 s3 s4 s5 s6 s7 s8 s9 s10 s11 s12 : Sl} {ds : List D} {n : Int} : puK 13 d (.int n) (s0 :: s1 :: s2 :: s3 :: s4 :: s5 :: s6 :: s7 :: s8 :: s9 :: s10 :: s11 :: s12 :: .ow (.list ds) :: g) kT = setK ds n d fun ds' => kT (s0 :: s1 :: s2 :: s3 :: s4 :: s5 :: s6 :: s7 :: s8 :: s9 :: s10 :: s11 :: s12 :: .ow (.list ds') :: g) := by
  show (match ixN ds.length n with | some m => _ | none => _) = _
  unfold setK; split <;> rfl
@[simp ↓] theorem au13ow {s0 s1 s2 s3 s4 s5 s6 s7 s8 s9 s10 s11 s12 : Sl} {ds : List D} {f : Int → Int → Int} : augT 13 fi fe f (s0 :: s1 :: s2 :: s3 :: s4 :: s5 :: s6 :: s7 :: s8 :: s9 :: s10 :: s11 :: s12 :: .ow (.list ds) :: g) kT = fi (s0 :: s1 :: s2 :: s3 :: s4 :: s5 :: s6 :: s7 :: s8 :: s9 :: s10 :: s11 :: s12 :: .ow (.list ds) :: g) fun j g' => auJ 13 fe f j g' kT := rfl
@[simp ↓] theorem aj13ow {s0 s1 s2 s3 s4 s5 s6 s7 s8 s9 s10 s11 s12 : Sl} {ds : List D} {f : Int → Int → Int} {n : Int} : auJ 13 fe f (.int n) (s0 :: s1 :: s2 :: s3 :: s4 :: s5 :: s6 :: s7 :: s8 :: s9 :: s10 :: s11 :: s12 :: .ow (.list ds) :: g) kT = augK ds n fun x => fe (s0 :: s1 :: s2 :: s3 :: s4 :: s5 :: s6 :: s7 :: s8 :: s9 :: s10 :: s11 :: s12 :: .ow (.list ds) :: g) fun y g2 => auK 13 f n x y g2 kT := by
  show (match ixN ds.length n with | some m => _ | none => _) = _
  unfold augK; split <;> rfl
@[simp ↓] theorem ak13ow {s0 s1 s2 s3 s4 s5 s6 s7 s8 s9 s10 s11 s12 : Sl} {ds : List D} {f : Int → Int → Int} {n x y : Int} : auK 13 f n x (.int y) (s0 :: s1 :: s2 :: s3 :: s4 :: s5 :: s6 :: s7 :: s8 :: s9 :: s10 :: s11 :: s12 :: .ow (.list ds) :: g) kT = setK ds n (.int (f x y)) fun ds' => kT (s0 :: s1 :: s2 :: s3 :: s4 :: s5 :: s6 :: s7 :: s8 :: s9 :: s10 :: s11 :: s12 :: .ow (.list ds') :: g) := by
  show (match ixN ds.length n with | some m => _ | none => _) = _
  unfold setK; split <;> rfl
@[simp ↓] theorem rc13rf {s0 s1 s2 s3 s4 s5 s6 s7 s8 s9 s10 s11 s12 : Sl} {φ : Fd} : callRC 13 φ fs (s0 :: s1 :: s2 :: s3 :: s4 :: s5 :: s6 :: s7 :: s8 :: s9 :: s10 :: s11 :: s12 :: .rf d :: g) kS = fs (s0 :: s1 :: s2 :: s3 :: s4 :: s5 :: s6 :: s7 :: s8 :: s9 :: s10 :: s11 :: s12 :: .rf d :: g) fun ds g' => rcK 13 φ ds g' kS := rfl
@[simp ↓] theorem rk13rf {s0 s1 s2 s3 s4 s5 s6 s7 s8 s9 s10 s11 s12 : Sl} {φ : Fd} {ds : List D} : rcK 13 φ ds (s0 :: s1 :: s2 :: s3 :: s4 :: s5 :: s6 :: s7 :: s8 :: s9 :: s10 :: s11 :: s12 :: .rf d :: g) kS = okR1 (φ (d :: ds)) fun s d1 => kS s (s0 :: s1 :: s2 :: s3 :: s4 :: s5 :: s6 :: s7 :: s8 :: s9 :: s10 :: s11 :: s12 :: .rf d1 :: g) := by
  show (match φ (d :: ds) with | .ok s [d1] => _ | _ => _) = _
  unfold okR1; split <;> rfl
@[simp ↓] theorem mu13rf {s0 s1 s2 s3 s4 s5 s6 s7 s8 s9 s10 s11 s12 : Sl} {op : List D → List D → Option (D × List D)} {ds : List D} : mutC 13 fs op (s0 :: s1 :: s2 :: s3 :: s4 :: s5 :: s6 :: s7 :: s8 :: s9 :: s10 :: s11 :: s12 :: .rf (.list ds) :: g) k = fs (s0 :: s1 :: s2 :: s3 :: s4 :: s5 :: s6 :: s7 :: s8 :: s9 :: s10 :: s11 :: s12 :: .rf (.list ds) :: g) fun as g' => muK 13 op as g' k := rfl
@[simp ↓] theorem mk13rf {s0 s1 s2 s3 s4 s5 s6 s7 s8 s9 s10 s11 s12 : Sl} {op : List D → List D → Option (D × List D)} {as ds : List D} : muK 13 op as (s0 :: s1 :: s2 :: s3 :: s4 :: s5 :: s6 :: s7 :: s8 :: s9 :: s10 :: s11 :: s12 :: .rf (.list ds) :: g) k = mutK (op ds as) fun r ds' => k r (s0 :: s1 :: s2 :: s3 :: s4 :: s5 :: s6 :: s7 :: s8 :: s9 :: s10 :: s11 :: s12 :: .rf (.list ds') :: g) := by
  show (match op ds as with | some (d, ds') => _ | none => _) = _
  unfold mutK; split <;> rfl
@[simp ↓] theorem pu13rf {s0 s1 s2 s3 s4 s5 s6 s7 s8 s9 s10 s11 s12 : Sl} {ds : List D} : putC 13 fi d (s0 :: s1 :: s2 :: s3 :: s4 :: s5 :: s6 :: s7 :: s8 :: s9 :: s10 :: s11 :: s12 :: .rf (.list ds) :: g) kT = fi (s0 :: s1 :: s2 :: s3 :: s4 :: s5 :: s6 :: s7 :: s8 :: s9 :: s10 :: s11 :: s12 :: .rf (.list ds) :: g) fun j g' => puK 13 d j g' kT := rfl
@[simp ↓] theorem pk13rf {s0 s1 s2 s3 s4 s5 s6 s7 s8 s9 s10 s11 s12 : Sl} {ds : List D} {n : Int} : puK 13 d (.int n) (s0 :: s1 :: s2 :: s3 :: s4 :: s5 :: s6 :: s7 :: s8 :: s9 :: s10 :: s11 :: s12 :: .rf (.list ds) :: g) kT = setK ds n d fun ds' => kT (s0 :: s1 :: s2 :: s3 :: s4 :: s5 :: s6 :: s7 :: s8 :: s9 :: s10 :: s11 :: s12 :: .rf (.list ds') :: g) := by
  show (match ixN ds.length n with | some m => _ | none => _) = _
  unfold setK; split <;> rfl
@[simp ↓] theorem au13rf {s0 s1 s2 s3 s4 s5 s6 s7 s8 s9 s10 s11 s12 : Sl} {ds : List D} {f : Int → Int → Int} : augT 13 fi fe f (s0 :: s1 :: s2 :: s3 :: s4 :: s5 :: s6 :: s7 :: s8 :: s9 :: s10 :: s11 :: s12 :: .rf (.list ds) :: g) kT = fi (s0 :: s1 :: s2 :: s3 :: s4 :: s5 :: s6 :: s7 :: s8 :: s9 :: s10 :: s11 :: s12 :: .rf (.list ds) :: g) fun j g' => auJ 13 fe f j g' kT := rfl
@[simp ↓] theorem aj13rf {s0 s1 s2 s3 s4 s5 s6 s7 s8 s9 s10 s11 s12 : Sl} {ds : List D} {f : Int → Int → Int} {n : Int} : auJ 13 fe f (.int n) (s0 :: s1 :: s2 :: s3 :: s4 :: s5 :: s6 :: s7 :: s8 :: s9 :: s10 :: s11 :: s12 :: .rf (.list ds) :: g) kT = augK ds n fun x => fe (s0 :: s1 :: s2 :: s3 :: s4 :: s5 :: s6 :: s7 :: s8 :: s9 :: s10 :: s11 :: s12 :: .rf (.list ds) :: g) fun y g2 => auK 13 f n x y g2 kT := by
  show (match ixN ds.length n with | some m => _ | none => _) = _
  unfold augK; split <;> rfl
@[simp ↓] theorem ak13rf {s0 s1 s2 s3 s4 s5 s6 s7 s8 s9 s10 s11 s12 : Sl} {ds : List D} {f : Int → Int → Int} {n x y : Int} : auK 13 f n x (.int y) (s0 :: s1 :: s2 :: s3 :: s4 :: s5 :: s6 :: s7 :: s8 :: s9 :: s10 :: s11 :: s12 :: .rf (.list ds) :: g) kT = setK ds n (.int (f x y)) fun ds' => kT (s0 :: s1 :: s2 :: s3 :: s4 :: s5 :: s6 :: s7 :: s8 :: s9 :: s10 :: s11 :: s12 :: .rf (.list ds') :: g) := by
  show (match ixN ds.length n with | some m => _ | none => _) = _
  unfold setK; split <;> rfl
@[simp ↓] theorem ag13 {s0 s1 s2 s3 s4 s5 s6 s7 s8 s9 s10 s11 s12 : Sl} {f : Int → Int → Int} {x : Int} : augN 13 fe f (s0 :: s1 :: s2 :: s3 :: s4 :: s5 :: s6 :: s7 :: s8 :: s9 :: s10 :: s11 :: s12 :: .sh (.int x) :: g) kT = fe (s0 :: s1 :: s2 :: s3 :: s4 :: s5 :: s6 :: s7 :: s8 :: s9 :: s10 :: s11 :: s12 :: .sh (.int x) :: g) fun y g' => kopO (intO y) g' fun y g' => stC 13 (.sh (.int (f x y))) g' kT := by
  show (fe _ _) = _
  congr 1; funext y g'; cases y <;> rfl
@[simp ↓] theorem rc14ow {s0 s1 s2 s3 s4 s5 s6 s7 s8 s9 s10 s11 s12 s13 : Sl} {φ : Fd} : callRC 14 φ fs (s0 :: s1 :: s2 :: s3 :: s4 :: s5 :: s6 :: s7 :: s8 :: s9 :: s10 :: s11 :: s12 :: s13 :: .ow d :: g) kS = fs (s0 :: s1 :: s2 :: s3 :: s4 :: s5 :: s6 :: s7 :: s8 :: s9 :: s10 :: s11 :: s12 :: s13 :: .ow d :: g) fun ds g' => rcK 14 φ ds g' kS := rfl
@[simp ↓] theorem rk14ow {s0 s1 s2 s3 s4 s5 s6 s7 s8 s9 s10 s11 s12 s13 : Sl} {φ : Fd} {ds : List D} : rcK 14 φ ds (s0 :: s1 :: s2 :: s3 :: s4 :: s5 :: s6 :: s7 :: s8 :: s9 :: s10 :: s11 :: s12 :: s13 :: .ow d :: g) kS = okR1 (φ (d :: ds)) fun s d1 => kS s (s0 :: s1 :: s2 :: s3 :: s4 :: s5 :: s6 :: s7 :: s8 :: s9 :: s10 :: s11 :: s12 :: s13 :: .ow d1 :: g) := by
  show (match φ (d :: ds) with | .ok s [d1] => _ | _ => _) = _
  unfold okR1; split <;> rfl
@[simp ↓] theorem mu14ow {s0 s1 s2 s3 s4 s5 s6 s7 s8 s9 s10 s11 s12 s13 : Sl} {op : List D → List D → Option (D × List D)} {ds : List D} : mutC 14 fs op (s0 :: s1 :: s2 :: s3 :: s4 :: s5 :: s6 :: s7 :: s8 :: s9 :: s10 :: s11 :: s12 :: s13 :: .ow (.list ds) :: g) k = fs (s0 :: s1 :: s2 :: s3 :: s4 :: s5 :: s6 :: s7 :: s8 :: s9 :: s10 :: s11 :: s12 :: s13 :: .ow (.list ds) :: g) fun as g' => muK 14 op as g' k := rfl
@[simp ↓] theorem mk14ow {s0 s1 s2 s3 s4 s5 s6 s7 s8 s9 s10 s11 s12 s13 : Sl} {op : List D → List D → Option (D × List D)} {as ds : List D} : muK 14 op as (s0 :: s1 :: s2 :: s3 :: s4 :: s5 :: s6 :: s7 :: s8 :: s9 :: s10 :: s11 :: s12 :: s13 :: .ow (.list ds) :: g) k = mutK (op ds as) fun r ds' => k r (s0 :: s1 :: s2 :: s3 :: s4 :: s5 :: s6 :: s7 :: s8 :: s9 :: s10 :: s11 :: s12 :: s13 :: .ow (.list ds') :: g) := by
  show (match op ds as with | some (d, ds') => _ | none => _) = _
  unfold mutK; split <;> rfl
@[simp ↓] theorem pu14ow {s0 s1 s2 s3 s4 s5 s6 s7 s8 s9 s10 s11 s12 s13 : Sl} {ds : List D} : putC 14 fi d (s0 :: s1 :: s2 :: s3 :: s4 :: s5 :: s6 :: s7 :: s8 :: s9 :: s10 :: s11 :: s12 :: s13 :: .ow (.list ds) :: g) kT = fi (s0 :: s1 :: s2 :: s3 :: s4 :: s5 :: s6 :: s7 :: s8 :: s9 :: s10 :: s11 :: s12 :: s13 :: .ow (.list ds) :: g) fun j g' => puK 14 d j g' kT := rfl
@[simp ↓] theorem pk14ow {s0 s1 s2 s3 s4 s5 s6 s7 s8 s9 s10 s11 s12 s13 : Sl} {ds : List D} {n : Int} : puK 14 d (.int n) (s0 :: s1 :: s2 :: s3 :: s4 :: s5 :: s6 :: s7 :: s8 :: s9 :: s10 :: s11 :: s12 :: s13 :: .ow (.list ds) :: g) kT = setK ds n d fun ds' => kT (s0 :: s1 :: s2 :: s3 :: s4 :: s5 :: s6 :: s7 :: s8 :: s9 :: s10 :: s11 :: s12 :: s13 :: .ow (.list ds') :: g) := by
  show (match ixN ds.length n with | some m => _ | none => _) = _
  unfold setK; split <;> rfl
@[simp ↓] theorem au14ow {s0 s1 s2 s3 s4 s5 s6 s7 s8 s9 s10 s11 s12 s13 : Sl} {ds : List D} {f : Int → Int → Int} : augT 14 fi fe f (s0 :: s1 :: s2 :: s3 :: s4 :: s5 :: s6 :: s7 :: s8 :: s9 :: s10 :: s11 :: s12 :: s13 :: .ow (.list ds) :: g) kT = fi (s0 :: s1 :: s2 :: s3 :: s4 :: s5 :: s6 :: s7 :: s8 :: s9 :: s10 :: s11 :: s12 :: s13 :: .ow (.list ds) :: g) fun j g' => auJ 14 fe f j g' kT := rfl
@[simp ↓] theorem aj14ow {s0 s1 s2 s3 s4 s5 s6 s7 s8 s9 s10 s11 s12 s13 : Sl} {ds : List D} {f : Int → Int → Int} {n : Int} : auJ 14 fe f (.int n) (s0 :: s1 :: s2 :: s3 :: s4 :: s5 :: s6 :: s7 :: s8 :: s9 :: s10 :: s11 :: s12 :: s13 :: .ow (.list ds) :: g) kT = augK ds n fun x => fe (s0 :: s1 :: s2 :: s3 :: s4 :: s5 :: s6 :: s7 :: s8 :: s9 :: s10 :: s11 :: s12 :: s13 :: .ow (.list ds) :: g) fun y g2 => auK 14 f n x y g2 kT := by
  show (match ixN ds.length n with | some m => _ | none => _) = _
  unfold augK; split <;> rfl
@[simp ↓] theorem ak14ow {s0 s1 s2 s3 s4 s5 s6 s7 s8 s9 s10 s11 s12 s13 : Sl} {ds : List D} {f : Int → Int → Int} {n x y : Int} : auK 14 f n x (.int y) (s0 :: s1 :: s2 :: s3 :: s4 :: s5 :: s6 :: s7 :: s8 :: s9 :: s10 :: s11 :: s12 :: s13 :: .ow (.list ds) :: g) kT = setK ds n (.int (f x y)) fun ds' => kT (s0 :: s1 :: s2 :: s3 :: s4 :: s5 :: s6 :: s7 :: s8 :: s9 :: s10 :: s11 :: s12 :: s13 :: .ow (.list ds') :: g) := by
  show (match ixN ds.length n with | some m => _ | none => _) = _
  unfold setK; split <;> rfl
@[simp ↓] theorem rc14rf {s0 s1 s2 s3 s4 s5 s6 s7 s8 s9 s10 s11 s12 s13 : Sl} {φ : Fd} : callRC 14 φ fs (s0 :: s1 :: s2 :: s3 :: s4 :: s5 :: s6 :: s7 :: s8 :: s9 :: s10 :: s11 :: s12 :: s13 :: .rf d :: g) kS = fs (s0 :: s1 :: s2 :: s3 :: s4 :: s5 :: s6 :: s7 :: s8 :: s9 :: s10 :: s11 :: s12 :: s13 :: .rf d :: g) fun ds g' => rcK 14 φ ds g' kS := rfl
@[simp ↓] theorem rk14rf {s0 s1 s2 s3 s4 s5 s6 s7 s8 s9 s10 s11 s12 s13 : Sl} {φ : Fd} {ds : List D} : rcK 14 φ ds (s0 :: s1 :: s2 :: s3 :: s4 :: s5 :: s6 :: s7 :: s8 :: s9 :: s10 :: s11 :: s12 :: s13 :: .rf d :: g) kS = okR1 (φ (d :: ds)) fun s d1 => kS s (s0 :: s1 :: s2 :: s3 :: s4 :: s5 :: s6 :: s7 :: s8 :: s9 :: s10 :: s11 :: s12 :: s13 :: .rf d1 :: g) := by
  show (match φ (d :: ds) with | .ok s [d1] => _ | _ => _) = _
  unfold okR1; split <;> rfl
@[simp ↓] theorem mu14rf {s0 s1 s2 s3 s4 s5 s6 s7 s8 s9 s10 s11 s12 s13 : Sl} {op : List D → List D → Option (D × List D)} {ds : List D} : mutC 14 fs op (s0 :: s1 :: s2 :: s3 :: s4 :: s5 :: s6 :: s7 :: s8 :: s9 :: s10 :: s11 :: s12 :: s13 :: .rf (.list ds) :: g) k = fs (s0 :: s1 :: s2 :: s3 :: s4 :: s5 :: s6 :: s7 :: s8 :: s9 :: s10 :: s11 :: s12 :: s13 :: .rf (.list ds) :: g) fun as g' => muK 14 op as g' k := rfl
@[simp ↓] theorem mk14rf {s0 s1 s2 s3 s4 s5 s6 s7 s8 s9 s10 s11 s12 s13 : Sl} {op : List D → List D → Option (D × List D)} {as ds : List D} : muK 14 op as (s0 :: s1 :: s2 :: s3 :: s4 :: s5 :: s6 :: s7 :: s8 :: s9 :: s10 :: s11 :: s12 :: s13 :: .rf (.list ds) :: g) k = mutK (op ds as) fun r ds' => k r (s0 :: s1 :: s2 :: s3 :: s4 :: s5 :: s6 :: s7 :: s8 :: s9 :: s10 :: s11 :: s12 :: s13 :: .rf (.list ds') :: g) := by
  show (match op ds as with | some (d, ds') => _ | none => _) = _
  unfold mutK; split <;> rfl
@[simp ↓] theorem pu14rf {s0 s1 s2 s3 s4 s5 s6 s7 s8 s9 s10 s11 s12 s13 : Sl} {ds : List D} : putC 14 fi d (s0 :: s1 :: s2 :: s3 :: s4 :: s5 :: s6 :: s7 :: s8 :: s9 :: s10 :: s11 :: s12 :: s13 :: .rf (.list ds) :: g) kT = fi (s0 :: s1 :: s2 :: s3 :: s4 :: s5 :: s6 :: s7 :: s8 :: s9 :: s10 :: s11 :: s12 :: s13 :: .rf (.list ds) :: g) fun j g' => puK 14 d j g' kT := rfl
@[simp ↓] theorem pk14rf {s0 s1 s2 s3 s4 s5 s6 s7 s8 s9 s10 s11 s12 s13 : Sl} {ds : List D} {n : Int} : puK 14 d (.int n) (s0 :: s1 :: s2 :: s3 :: s4 :: s5 :: s6 :: s7 :: s8 :: s9 :: s10 :: s11 :: s12 :: s13 :: .rf (.list ds) :: g) kT = setK ds n d fun ds' => kT (s0 :: s1 :: s2 :: s3 :: s4 :: s5 :: s6 :: s7 :: s8 :: s9 :: s10 :: s11 :: s12 :: s13 :: .rf (.list ds') :: g) := by
  show (match ixN ds.length n with | some m => _ | none => _) = _
  unfold setK; split <;> rfl
@[simp ↓] theorem au14rf {s0 s1 s2 s3 s4 s5 s6 s7 s8 s9 s10 s11 s12 s13 : Sl} {ds : List D} {f : Int → Int → Int} : augT 14 fi fe f (s0 :: s1 :: s2 :: s3 :: s4 :: s5 :: s6 :: s7 :: s8 :: s9 :: s10 :: s11 :: s12 :: s13 :: .rf (.list ds) :: g) kT = fi (s0 :: s1 :: s2 :: s3 :: s4 :: s5 :: s6 :: s7 :: s8 :: s9 :: s10 :: s11 :: s12 :: s13 :: .rf (.list ds) :: g) fun j g' => auJ 14 fe f j g' kT := rfl
@[simp ↓] theorem aj14rf {s0 s1 s2 s3 s4 s5 s6 s7 s8 s9 s10 s11 s12 s13 : Sl} {ds : List D} {f : Int → Int → Int} {n : Int} : auJ 14 fe f (.int n) (s0 :: s1 :: s2 :: s3 :: s4 :: s5 :: s6 :: s7 :: s8 :: s9 :: s10 :: s11 :: s12 :: s13 :: .rf (.list ds) :: g) kT = augK ds n fun x => fe (s0 :: s1 :: s2 :: s3 :: s4 :: s5 :: s6 :: s7 :: s8 :: s9 :: s10 :: s11 :: s12 :: s13 :: .rf (.list ds) :: g) fun y g2 => auK 14 f n x y g2 kT := by
  show (match ixN ds.length n with | some m => _ | none => _) = _
  unfold augK; split <;> rfl
@[simp ↓] theorem ak14rf {s0 s1 s2 s3 s4 s5 s6 s7 s8 s9 s10 s11 s12 s13 : Sl} {ds : List D} {f : Int → Int → Int} {n x y : Int} : auK 14 f n x (.int y) (s0 :: s1 :: s2 :: s3 :: s4 :: s5 :: s6 :: s7 :: s8 :: s9 :: s10 :: s11 :: s12 :: s13 :: .rf (.list ds) :: g) kT = setK ds n (.int (f x y)) fun ds' => kT (s0 :: s1 :: s2 :: s3 :: s4 :: s5 :: s6 :: s7 :: s8 :: s9 :: s10 :: s11 :: s12 :: s13 :: .rf (.list ds') :: g) := by
  show (match ixN ds.length n with | some m => _ | none => _) = _
  unfold setK; split <;> rfl
@[simp ↓] theorem ag14 {s0 s1 s2 s3 s4 s5 s6 s7 s8 s9 s10 s11 s12 s13 : Sl} {f : Int → Int → Int} {x : Int} : augN 14 fe f (s0 :: s1 :: s2 :: s3 :: s4 :: s5 :: s6 :: s7 :: s8 :: s9 :: s10 :: s11 :: s12 :: s13 :: .sh (.int x) :: g) kT = fe (s0 :: s1 :: s2 :: s3 :: s4 :: s5 :: s6 :: s7 :: s8 :: s9 :: s10 :: s11 :: s12 :: s13 :: .sh (.int x) :: g) fun y g' => kopO (intO y) g' fun y g' => stC 14 (.sh (.int (f x y))) g' kT := by
  show (fe _ _) = _
  congr 1; funext y g'; cases y <;> rfl
@[simp ↓] theorem rc15ow {s0 s1 s2 s3 s4 s5 s6 s7 s8 s9 s10 s11 s12 s13 s14 : Sl} {φ : Fd} : callRC 15 φ fs (s0 :: s1 :: s2 :: s3 :: s4 :: s5 :: s6 :: s7 :: s8 :: s9 :: s10 :: s11 :: s12 :: s13 :: s14 :: .ow d :: g) kS = fs (s0 :: s1 :: s2 :: s3 :: s4 :: s5 :: s6 :: s7 :: s8 :: s9 :: s10 :: s11 :: s12 :: s13 :: s14 :: .ow d :: g) fun ds g' => rcK 15 φ ds g' kS := rfl
@[simp ↓] theorem rk15ow {s0 s1 s2 s3 s4 s5 s6 s7 s8 s9 s10 s11 s12 s13 s14 : Sl} {φ : Fd} {ds : List D} : rcK 15 φ ds (s0 :: s1 :: s2 :: s3 :: s4 :: s5 :: s6 :: s7 :: s8 :: s9 :: s10 :: s11 :: s12 :: s13 :: s14 :: .ow d :: g) kS = okR1 (φ (d :: ds)) fun s d1 => kS s (s0 :: s1 :: s2 :: s3 :: s4 :: s5 :: s6 :: s7 :: s8 :: s9 :: s10 :: s11 :: s12 :: s13 :: s14 :: .ow d1 :: g) := by
  show (match φ (d :: ds) with | .ok s [d1] => _ | _ => _) = _
  unfold okR1; split <;> rfl
@[simp ↓] theorem mu15ow {s0 s1 s2 s3 s4 s5 s6 s7 s8 s9 s10 s11 s12 s13 s14 : Sl} {op : List D → List D → Option (D × List D)} {ds : List D} : mutC 15 fs op (s0 :: s1 :: s2 :: s3 :: s4 :: s5 :: s6 :: s7 :: s8 :: s9 :: s10 :: s11 :: s12 :: s13 :: s14 :: .ow (.list ds) :: g) k = fs (s0 :: s1 :: s2 :: s3 :: s4 :: s5 :: s6 :: s7 :: s8 :: s9 :: s10 :: s11 :: s12 :: s13 :: s14 :: .ow (.list ds) :: g) fun as g' => muK 15 op as g' k := rfl
@[simp ↓] theorem mk15ow {s0 s1 s2 s3 s4 s5 s6 s7 s8 s9 s10 s11 s12 s13 s14 : Sl} {op : List D → List D → Option (D × List D)} {as ds : List D} : muK 15 op as (s0 :: s1 :: s2 :: s3 :: s4 :: s5 :: s6 :: s7 :: s8 :: s9 :: s10 :: s11 :: s12 :: s13 :: s14 :: .ow (.list ds) :: g) k = mutK (op ds as) fun r ds' => k r (s0 :: s1 :: s2 :: s3 :: s4 :: s5 :: s6 :: s7 :: s8 :: s9 :: s10 :: s11 :: s12 :: s13 :: s14 :: .ow (.list ds') :: g) := by
  show (match op ds as with | some (d, ds') => _ | none => _) = _
  unfold mutK; split <;> rfl
@[simp ↓] theorem pu15ow {s0 s1 s2 s3 s4 s5 s6 s7 s8 s9 s10 s11 s12 s13 s14 : Sl} {ds : List D} : putC 15 fi d (s0 :: s1 :: s2 :: s3 :: s4 :: s5 :: s6 :: s7 :: s8 :: s9 :: s10 :: s11 :: s12 :: s13 :: s14 :: .ow (.list ds) :: g) kT = fi (s0 :: s1 :: s2 :: s3 :: s4 :: s5 :: s6 :: s7 :: s8 :: s9 :: s10 :: s11 :: s12 :: s13 :: s14 :: .ow (.list ds) :: g) fun j g' => puK 15 d j g' kT := rfl
@[simp ↓] theorem pk15ow {s0 s1 s2 s3 s4 s5 s6 s7 s8 s9 s10 s11 s12 s13 s14 : Sl} {ds : List D} {n : Int} : puK 15 d (.int n) (s0 :: s1 :: s2 :: s3 :: s4 :: s5 :: s6 :: s7 :: s8 :: s9 :: s10 :: s11 :: s12 :: s13 :: s14 :: .ow (.list ds) :: g) kT = setK ds n d fun ds' => kT (s0 :: s1 :: s2 :: s3 :: s4 :: s5 :: s6 :: s7 :: s8 :: s9 :: s10 :: s11 :: s12 :: s13 :: s14 :: .ow (.list ds') :: g) := by
  show (match ixN ds.length n with | some m => _ | none => _) = _
  unfold setK; split <;> rfl
@[simp ↓] theorem au15ow {s0 s1 s2 s3 s4 s5 s6 s7 s8 s9 s10 s11 s12 s13 s14 : Sl} {ds : List D} {f : Int → Int → Int} : augT 15 fi fe f (s0 :: s1 :: s2 :: s3 :: s4 :: s5 :: s6 :: s7 :: s8 :: s9 :: s10 :: s11 :: s12 :: s13 :: s14 :: .ow (.list ds) :: g) kT = fi (s0 :: s1 :: s2 :: s3 :: s4 :: s5 :: s6 :: s7 :: s8 :: s9 :: s10 :: s11 :: s12 :: s13 :: s14 :: .ow (.list ds) :: g) fun j g' => auJ 15 fe f j g' kT := rfl
@[simp ↓] theorem aj15ow {s0 s1 s2 s3 s4 s5 s6 s7 s8 s9 s10 s11 s12 s13 s14 : Sl} {ds : List D} {f : Int → Int → Int} {n : Int} : auJ 15 fe f (.int n) (s0 :: s1 :: s2 :: s3 :: s4 :: s5 :: s6 :: s7 :: s8 :: s9 :: s10 :: s11 :: s12 :: s13 :: s14 :: .ow (.list ds) :: g) kT = augK ds n fun x => fe (s0 :: s1 :: s2 :: s3 :: s4 :: s5 :: s6 :: s7 :: s8 :: s9 :: s10 :: s11 :: s12 :: s13 :: s14 :: .ow (.list ds) :: g) fun y g2 => auK 15 f n x y g2 kT := by
  show (match ixN ds.length n with | some m => _ | none => _) = _
  unfold augK; split <;> rfl
@[simp ↓] theorem ak15ow {s0 s1 s2 s3 s4 s5 s6 s7 s8 s9 s10 s11 s12 s13 s14 : Sl} {ds : List D} {f : Int → Int → Int} {n x y : Int} : auK 15 f n x (.int y) (s0 :: s1 :: s2 :: s3 :: s4 :: s5 :: s6 :: s7 :: s8 :: s9 :: s10 :: s11 :: s12 :: s13 :: s14 :: .ow (.list ds) :: g) kT = setK ds n (.int (f x y)) fun ds' => kT (s0 :: s1 :: s2 :: s3 :: s4 :: s5 :: s6 :: s7 :: s8 :: s9 :: s10 :: s11 :: s12 :: s13 :: s14 :: .ow (.list ds') :: g) := by
  show (match ixN ds.length n with | some m => _ | none => _) = _
  unfold setK; split <;> rfl
@[simp ↓] theorem rc15rf {s0 s1 s2 s3 s4 s5 s6 s7 s8 s9 s10 s11 s12 s13 s14 : Sl} {φ : Fd} : callRC 15 φ fs (s0 :: s1 :: s2 :: s3 :: s4 :: s5 :: s6 :: s7 :: s8 :: s9 :: s10 :: s11 :: s12 :: s13 :: s14 :: .rf d :: g) kS = fs (s0 :: s1 :: s2 :: s3 :: s4 :: s5 :: s6 :: s7 :: s8 :: s9 :: s10 :: s11 :: s12 :: s13 :: s14 :: .rf d :: g) fun ds g' => rcK 15 φ ds g' kS := rfl
@[simp ↓] theorem rk15rf {s0 s1 s2 s3 s4 s5 s6 s7 s8 s9 s10 s11 s12 s13 s14 : Sl} {φ : Fd} {ds : List D} : rcK 15 φ ds (s0 :: s1 :: s2 :: s3 :: s4 :: s5 :: s6 :: s7 :: s8 :: s9 :: s10 :: s11 :: s12 :: s13 :: s14 :: .rf d :: g) kS = okR1 (φ (d :: ds)) fun s d1 => kS s (s0 :: s1 :: s2 :: s3 :: s4 :: s5 :: s6 :: s7 :: s8 :: s9 :: s10 :: s11 :: s12 :: s13 :: s14 :: .rf d1 :: g) := by
  show (match φ (d :: ds) with | .ok s [d1] => _ | _ => _) = _
  unfold okR1; split <;> rfl
@[simp ↓] theorem mu15rf {s0 s1 s2 s3 s4 s5 s6 s7 s8 s9 s10 s11 s12 s13 s14 : Sl} {op : List D → List D → Option (D × List D)} {ds : List D} : mutC 15 fs op (s0 :: s1 :: s2 :: s3 :: s4 :: s5 :: s6 :: s7 :: s8 :: s9 :: s10 :: s11 :: s12 :: s13 :: s14 :: .rf (.list ds) :: g) k = fs (s0 :: s1 :: s2 :: s3 :: s4 :: s5 :: s6 :: s7 :: s8 :: s9 :: s10 :: s11 :: s12 :: s13 :: s14 :: .rf (.list ds) :: g) fun as g' => muK 15 op as g' k := rfl
@[simp ↓] theorem mk15rf {s0 s1 s2 s3 s4 s5 s6 s7 s8 s9 s10 s11 s12 s13 s14 : Sl} {op : List D → List D → Option (D × List D)} {as ds : List D} : muK 15 op as (s0 :: s1 :: s2 :: s3 :: s4 :: s5 :: s6 :: s7 :: s8 :: s9 :: s10 :: s11 :: s12 :: s13 :: s14 :: .rf (.list ds) :: g) k = mutK (op ds as) fun r ds' => k r (s0 :: s1 :: s2 :: s3 :: s4 :: s5 :: s6 :: s7 :: s8 :: s9 :: s10 :: s11 :: s12 :: s13 :: s14 :: .rf (.list ds') :: g) := by
  show (match op ds as with | some (d, ds') => _ | none => _) = _
  unfold mutK; split <;> rfl
@[simp ↓] theorem pu15rf {s0 s1 s2 s3 s4 s5 s6 s7 s8 s9 s10 s11 s12 s13 s14 : Sl} {ds : List D} : putC 15 fi d (s0 :: s1 :: s2 :: s3 :: s4 :: s5 :: s6 :: s7 :: s8 :: s9 :: s10 :: s11 :: s12 :: s13 :: s14 :: .rf (.list ds) :: g) kT = fi (s0 :: s1 :: s2 :: s3 :: s4 :: s5 :: s6 :: s7 :: s8 :: s9 :: s10 :: s11 :: s12 :: s13 :: s14 :: .rf (.list ds) :: g) fun j g' => puK 15 d j g' kT := rfl
@[simp ↓] theorem pk15rf {s0 s1 s2 s3 s4 s5 s6 s7 s8 s9 s10 s11 s12 s13 s14 : Sl} {ds : List D} {n : Int} : puK 15 d (.int n) (s0 :: s1 :: s2 :: s3 :: s4 :: s5 :: s6 :: s7 :: s8 :: s9 :: s10 :: s11 :: s12 :: s13 :: s14 :: .rf (.list ds) :: g) kT = setK ds n d fun ds' => kT (s0 :: s1 :: s2 :: s3 :: s4 :: s5 :: s6 :: s7 :: s8 :: s9 :: s10 :: s11 :: s12 :: s13 :: s14 :: .rf (.list ds') :: g) := by
  show (match ixN ds.length n with | some m => _ | none => _) = _
  unfold setK; split <;> rfl
@[simp ↓] theorem au15rf {s0 s1 s2 s3 s4 s5 s6 s7 s8 s9 s10 s11 s12 s13 s14 : Sl} {ds : List D} {f : Int → Int → Int} : augT 15 fi fe f (s0 :: s1 :: s2 :: s3 :: s4 :: s5 :: s6 :: s7 :: s8 :: s9 :: s10 :: s11 :: s12 :: s13 :: s14 :: .rf (.list ds) :: g) kT = fi (s0 :: s1 :: s2 :: s3 :: s4 :: s5 :: s6 :: s7 :: s8 :: s9 :: s10 :: s11 :: s12 :: s13 :: s14 :: .rf (.list ds) :: g) fun j g' => auJ 15 fe f j g' kT := rfl
@[simp ↓] theorem aj15rf {s0 s1 s2 s3 s4 s5 s6 s7 s8 s9 s10 s11 s12 s13 s14 : Sl} {ds : List D} {f : Int → Int → Int} {n : Int} : auJ 15 fe f (.int n) (s0 :: s1 :: s2 :: s3 :: s4 :: s5 :: s6 :: s7 :: s8 :: s9 :: s10 :: s11 :: s12 :: s13 :: s14 :: .rf (.list ds) :: g) kT = augK ds n fun x => fe (s0 :: s1 :: s2 :: s3 :: s4 :: s5 :: s6 :: s7 :: s8 :: s9 :: s10 :: s11 :: s12 :: s13 :: s14 :: .rf (.list ds) :: g) fun y g2 => auK 15 f n x y g2 kT := by
  show (match ixN ds.length n with | some m => _ | none => _) = _
  unfold augK; split <;> rfl
@[simp ↓] theorem ak15rf {s0 s1 s2 s3 s4 s5 s6 s7 s8 s9 s10 s11 s12 s13 s14 : Sl} {ds : List D} {f : Int → Int → Int} {n x y : Int} : auK 15 f n x (.int y) (s0 :: s1 :: s2 :: s3 :: s4 :: s5 :: s6 :: s7 :: s8 :: s9 :: s10 :: s11 :: s12 :: s13 :: s14 :: .rf (.list ds) :: g) kT = setK ds n (.int (f x y)) fun ds' => kT (s0 :: s1 :: s2 :: s3 :: s4 :: s5 :: s6 :: s7 :: s8 :: s9 :: s10 :: s11 :: s12 :: s13 :: s14 :: .rf (.list ds') :: g) := by
  show (match ixN ds.length n with | some m => _ | none => _) = _
  unfold setK; split <;> rfl
@[simp ↓] theorem ag15 {s0 s1 s2 s3 s4 s5 s6 s7 s8 s9 s10 s11 s12 s13 s14 : Sl} {f : Int → Int → Int} {x : Int} : augN 15 fe f (s0 :: s1 :: s2 :: s3 :: s4 :: s5 :: s6 :: s7 :: s8 :: s9 :: s10 :: s11 :: s12 :: s13 :: s14 :: .sh (.int x) :: g) kT = fe (s0 :: s1 :: s2 :: s3 :: s4 :: s5 :: s6 :: s7 :: s8 :: s9 :: s10 :: s11 :: s12 :: s13 :: s14 :: .sh (.int x) :: g) fun y g' => kopO (intO y) g' fun y g' => stC 15 (.sh (.int (f x y))) g' kT := by
  show (fe _ _) = _
  congr 1; funext y g'; cases y <;> rfl
@[simp ↓] theorem st_1_0 {a0 : D} {kl : List D → R} : setK [a0] 0 d kl = kl [d] := rfl
@[simp ↓] theorem sa_1_0 {a0 : D} {x : Int} {kl : Int → R} : augK [.int x] 0 kl = kl x := rfl
@[simp ↓] theorem st_2_0 {a0 a1 : D} {kl : List D → R} : setK [a0, a1] 0 d kl = kl [d, a1] := rfl
@[simp ↓] theorem sa_2_0 {a0 a1 : D} {x : Int} {kl : Int → R} : augK [.int x, a1] 0 kl = kl x := rfl
@[simp ↓] theorem st_2_1 {a0 a1 : D} {kl : List D → R} : setK [a0, a1] 1 d kl = kl [a0, d] := rfl
@[simp ↓] theorem sa_2_1 {a0 a1 : D} {x : Int} {kl : Int → R} : augK [a0, .int x] 1 kl = kl x := rfl
@[simp ↓] theorem st_3_0 {a0 a1 a2 : D} {kl : List D → R} : setK [a0, a1, a2] 0 d kl = kl [d, a1, a2] := rfl
@[simp ↓] theorem sa_3_0 {a0 a1 a2 : D} {x : Int} {kl : Int → R} : augK [.int x, a1, a2] 0 kl = kl x := rfl
@[simp ↓] theorem st_3_1 {a0 a1 a2 : D} {kl : List D → R} : setK [a0, a1, a2] 1 d kl = kl [a0, d, a2] := rfl
@[simp ↓] theorem sa_3_1 {a0 a1 a2 : D} {x : Int} {kl : Int → R} : augK [a0, .int x, a2] 1 kl = kl x := rfl
@[simp ↓] theorem st_3_2 {a0 a1 a2 : D} {kl : List D → R} : setK [a0, a1, a2] 2 d kl = kl [a0, a1, d] := rfl
@[simp ↓] theorem sa_3_2 {a0 a1 a2 : D} {x : Int} {kl : Int → R} : augK [a0, a1, .int x] 2 kl = kl x := rfl
@[simp ↓] theorem st_4_0 {a0 a1 a2 a3 : D} {kl : List D → R} : setK [a0, a1, a2, a3] 0 d kl = kl [d, a1, a2, a3] := rfl
@[simp ↓] theorem sa_4_0 {a0 a1 a2 a3 : D} {x : Int} {kl : Int → R} : augK [.int x, a1, a2, a3] 0 kl = kl x := rfl
@[simp ↓] theorem st_4_1 {a0 a1 a2 a3 : D} {kl : List D → R} : setK [a0, a1, a2, a3] 1 d kl = kl [a0, d, a2, a3] := rfl
@[simp ↓] theorem sa_4_1 {a0 a1 a2 a3 : D} {x : Int} {kl : Int → R} : augK [a0, .int x, a2, a3] 1 kl = kl x := rfl
@[simp ↓] theorem st_4_2 {a0 a1 a2 a3 : D} {kl : List D → R} : setK [a0, a1, a2, a3] 2 d kl = kl [a0, a1, d, a3] := rfl
@[simp ↓] theorem sa_4_2 {a0 a1 a2 a3 : D} {x : Int} {kl : Int → R} : augK [a0, a1, .int x, a3] 2 kl = kl x := rfl
@[simp ↓] theorem st_4_3 {a0 a1 a2 a3 : D} {kl : List D → R} : setK [a0, a1, a2, a3] 3 d kl = kl [a0, a1, a2, d] := rfl
@[simp ↓] theorem sa_4_3 {a0 a1 a2 a3 : D} {x : Int} {kl : Int → R} : augK [a0, a1, a2, .int x] 3 kl = kl x := rfl
@[simp ↓] theorem st_5_0 {a0 a1 a2 a3 a4 : D} {kl : List D → R} : setK [a0, a1, a2, a3, a4] 0 d kl = kl [d, a1, a2, a3, a4] := rfl
@[simp ↓] theorem sa_5_0 {a0 a1 a2 a3 a4 : D} {x : Int} {kl : Int → R} : augK [.int x, a1, a2, a3, a4] 0 kl = kl x := rfl
@[simp ↓] theorem st_5_1 {a0 a1 a2 a3 a4 : D} {kl : List D → R} : setK [a0, a1, a2, a3, a4] 1 d kl = kl [a0, d, a2, a3, a4] := rfl
@[simp ↓] theorem sa_5_1 {a0 a1 a2 a3 a4 : D} {x : Int} {kl : Int → R} : augK [a0, .int x, a2, a3, a4] 1 kl = kl x := rfl
@[simp ↓] theorem st_5_2 {a0 a1 a2 a3 a4 : D} {kl : List D → R} : setK [a0, a1, a2, a3, a4] 2 d kl = kl [a0, a1, d, a3, a4] := rfl
@[simp ↓] theorem sa_5_2 {a0 a1 a2 a3 a4 : D} {x : Int} {kl : Int → R} : augK [a0, a1, .int x, a3, a4] 2 kl = kl x := rfl
@[simp ↓] theorem st_5_3 {a0 a1 a2 a3 a4 : D} {kl : List D → R} : setK [a0, a1, a2, a3, a4] 3 d kl = kl [a0, a1, a2, d, a4] := rfl
@[simp ↓] theorem sa_5_3 {a0 a1 a2 a3 a4 : D} {x : Int} {kl : Int → R} : augK [a0, a1, a2, .int x, a4] 3 kl = kl x := rfl
@[simp ↓] theorem st_5_4 {a0 a1 a2 a3 a4 : D} {kl : List D → R} : setK [a0, a1, a2, a3, a4] 4 d kl = kl [a0, a1, a2, a3, d] := rfl
@[simp ↓] theorem sa_5_4 {a0 a1 a2 a3 a4 : D} {x : Int} {kl : Int → R} : augK [a0, a1, a2, a3, .int x] 4 kl = kl x := rfl
@[simp ↓] theorem st_6_0 {a0 a1 a2 a3 a4 a5 : D} {kl : List D → R} : setK [a0, a1, a2, a3, a4, a5] 0 d kl = kl [d, a1, a2, a3, a4, a5] := rfl
@[simp ↓] theorem sa_6_0 {a0 a1 a2 a3 a4 a5 : D} {x : Int} {kl : Int → R} : augK [.int x, a1, a2, a3, a4, a5] 0 kl = kl x := rfl
@[simp ↓] theorem st_6_1 {a0 a1 a2 a3 a4 a5 : D} {kl : List D → R} : setK [a0, a1, a2, a3, a4, a5] 1 d kl = kl [a0, d, a2, a3, a4, a5] := rfl
@[simp ↓] theorem sa_6_1 {a0 a1 a2 a3 a4 a5 : D} {x : Int} {kl : Int → R} : augK [a0, .int x, a2, a3, a4, a5] 1 kl = kl x := rfl
@[simp ↓] theorem st_6_2 {a0 a1 a2 a3 a4 a5 : D} {kl : List D → R} : setK [a0, a1, a2, a3, a4, a5] 2 d kl = kl [a0, a1, d, a3, a4, a5] := rfl
@[simp ↓] theorem sa_6_2 {a0 a1 a2 a3 a4 a5 : D} {x : Int} {kl : Int → R} : augK [a0, a1, .int x, a3, a4, a5] 2 kl = kl x := rfl
@[simp ↓] theorem st_6_3 {a0 a1 a2 a3 a4 a5 : D} {kl : List D → R} : setK [a0, a1, a2, a3, a4, a5] 3 d kl = kl [a0, a1, a2, d, a4, a5] := rfl
@[simp ↓] theorem sa_6_3 {a0 a1 a2 a3 a4 a5 : D} {x : Int} {kl : Int → R} : augK [a0, a1, a2, .int x, a4, a5] 3 kl = kl x := rfl
@[simp ↓] theorem st_6_4 {a0 a1 a2 a3 a4 a5 : D} {kl : List D → R} : setK [a0, a1, a2, a3, a4, a5] 4 d kl = kl [a0, a1, a2, a3, d, a5] := rfl
@[simp ↓] theorem sa_6_4 {a0 a1 a2 a3 a4 a5 : D} {x : Int} {kl : Int → R} : augK [a0, a1, a2, a3, .int x, a5] 4 kl = kl x := rfl
@[simp ↓] theorem st_6_5 {a0 a1 a2 a3 a4 a5 : D} {kl : List D → R} : setK [a0, a1, a2, a3, a4, a5] 5 d kl = kl [a0, a1, a2, a3, a4, d] := rfl
@[simp ↓] theorem sa_6_5 {a0 a1 a2 a3 a4 a5 : D} {x : Int} {kl : Int → R} : augK [a0, a1, a2, a3, a4, .int x] 5 kl = kl x := rfl
@[simp ↓] theorem m_app {ds : List D} {k2 : D → List D → R} (h : ds.length < sizeLine) : mutK (appO ds [d]) k2 = k2 .none (ds ++ [d]) := by
  simp only [appO, h, if_true]; rfl
@[simp ↓] theorem m_pop {ds : List D} {k2 : D → List D → R} : mutK (popO (ds ++ [d]) []) k2 = k2 d ds := by
  unfold popO; simp [mutK]
@[simp] theorem startG_nil {rf : List Nat} {i : Nat} : startG rf i [] = [] := rfl
@[simp] theorem startG_cons {rf : List Nat} {i : Nat} {ds : List D} : startG rf i (d :: ds) = (if i ∈ rf then .rf d else .sh d) :: startG rf (i + 1) ds := rfl
@[simp ↓] theorem endR_ret0 {s : Sl} : endR [] (.ret s g) = .ok s [] := rfl
@[simp ↓] theorem endR_ret1 {s : Sl} : endR [0] (.ret s (.rf d :: g)) = .ok s [d] := rfl
end
end Z

namespace Z
open PySem L2
/-- the state of the numbers that are drawn -/
def stD (cs : List Int) (a b c : Int) : D := .list [.list (cs.map .int), .int a, .int b, .int c]
/-- such a state -/
def St (d : D) : Prop := ∃ cs a b c, d = stD cs a b c ∧ 0 ≤ a ∧ 0 ≤ b ∧ 0 ≤ c
theorem next_ok {s : D} (hs : St s) {m : Int} (hm : 0 < m) (hm2 : m < 1073741824) :
    ∃ v s', d__law_next [s, .int m] = .ok (.sh (.int v)) [s'] ∧ 0 ≤ v ∧ v < m ∧ St s' := by
  obtain ⟨cs, a, b, c, rfl, ha, hb, hc⟩ := hs
  have fin : ∀ {r : Rs} (v a' b' c' : Int), r = .ok (.sh (.int (v % m))) [stD cs a' b' c'] → 0 ≤ a' → 0 ≤ b' → 0 ≤ c' → ∃ v s', r = .ok (.sh (.int v)) [s'] ∧ 0 ≤ v ∧ v < m ∧ St s' :=
    fun v a' b' c' e h1 h2 h3 => ⟨_, _, e, Int.emod_nonneg _ (by omega), Int.emod_lt_of_pos _ hm, cs, a', b', c', rfl, h1, h2, h3⟩
  have hd : ∀ x : Int, 0 ≤ x → 0 ≤ x / m := fun x hx => Int.ediv_nonneg hx (by omega)
  have hp : ∀ x : Int, 0 ≤ x % 2147483647 := fun x => Int.emod_nonneg _ (by omega)
  unfold d__law_next b__law_next stD
  by_cases h1 : b = 0 ∧ a < cs.length
  · obtain ⟨rfl, h1⟩ := h1
    have hcell : ∃ x, cs[a.toNat]? = some x := ⟨cs[a.toNat]'(by omega), List.getElem?_eq_getElem _⟩
    obtain ⟨x, hx⟩ := hcell
    have hx' : atI (cs.map PyData.int) a = some (.int x) := by rw [zatI_nat a ha, List.getElem?_map, hx]; rfl
    have hk : ∀ g k, kopD (atI (cs.map PyData.int) a) g k = k (.int x) g := fun g k => zat_of hx'
    by_cases h2 : (1000000000000000000 : Int) ≤ x
    · have h3 : 0 < x := by omega
      simp [-Rs.ok.injEq, ↓hk, h1, h2, h3, hm, hm2]
      exact fin _ _ _ _ rfl (by omega) (hd x (by omega)) hc
    · simp [-Rs.ok.injEq, ↓hk, h1, h2, hm, hm2]
      exact fin _ _ _ _ rfl (by omega) (by omega) (hp _)
  · have h1' : ¬ (b = 0) ∨ ¬ a < cs.length := by
      by_cases hb0 : b = 0
      · exact .inr fun z => h1 ⟨hb0, z⟩
      · exact .inl hb0
    by_cases h4 : 0 < b
    · have hb0 : ¬ b = 0 := by omega
      simp [-Rs.ok.injEq, hb0, h4, hm, hm2]
      exact fin _ _ _ _ rfl ha (hd b hb) hc
    · have hb0 : b = 0 := by omega
      subst hb0
      have h5 : ¬ a < cs.length := h1'.elim (fun z => absurd rfl z) id
      simp [-Rs.ok.injEq, h5, hm, hm2]
      exact fin _ _ _ _ rfl ha hb (hp _)
theorem okR1_of {r : Rs} {s : Sl} {d : D} (h : r = .ok s [d]) {K : Sl → D → R} : okR1 r K = K s d := by rw [h]; rfl
theorem okR_of {r : Rs} {s : Sl} (h : r = .ok s []) {g : Gam} {K : KS} : okR r g K = K s g := by rw [h]; rfl
theorem next_k {s : D} (hs : St s) {m : Int} (hm : 0 < m) (hm2 : m < 1073741824) :
    ∃ v s', (∀ K, okR1 (d__law_next [s, .int m]) K = K (.sh (.int v)) s') ∧ 0 ≤ v ∧ v < m ∧ St s' := by
  obtain ⟨v, s', e, h⟩ := next_ok hs hm hm2
  exact ⟨v, s', fun K => okR1_of e, h⟩
end Z

namespace Z
open PySem L2

/-! ### cuts -/
section
variable {α : Type} {ds : List α} {i j : Int}
theorem sIx_at {n d : Nat} (h : 0 ≤ i) : HT.sIx n d (some i) = min i.toNat n := by
  show (if i < 0 then (i + (n : Int)).toNat else min i.toNat n) = _
  rw [if_neg (by omega)]
theorem cut_to (h : 0 ≤ j) : cutL ds none (some j) = ds.take j.toNat := by
  unfold cutL
  rw [sIx_at h, HT.sIx_none, List.drop_zero, Nat.sub_zero]
  rcases Nat.le_total j.toNat ds.length with q | q
  · rw [Nat.min_eq_left q]
  · rw [Nat.min_eq_right q, List.take_of_length_le (Nat.le_refl _), List.take_of_length_le q]
theorem cut_from (h : 0 ≤ i) : cutL ds (some i) none = ds.drop i.toNat := by
  unfold cutL
  rw [sIx_at h, HT.sIx_none]
  rcases Nat.le_total i.toNat ds.length with q | q
  · rw [Nat.min_eq_left q, List.take_of_length_le (by rw [List.length_drop]; omega)]
  · rw [Nat.min_eq_right q, List.drop_length, List.drop_of_length_le q, List.take_nil]
theorem cut_at (h : 0 ≤ i) (h2 : 0 ≤ j) : cutL ds (some i) (some j) = (ds.drop i.toNat).take (j.toNat - i.toNat) := by
  unfold cutL
  rw [sIx_at h, sIx_at h2]
  rcases Nat.le_total i.toNat ds.length with q | q
  · rw [Nat.min_eq_left q]
    rcases Nat.le_total j.toNat ds.length with q2 | q2
    · rw [Nat.min_eq_left q2]
    · rw [Nat.min_eq_right q2, List.take_of_length_le (by rw [List.length_drop]; omega), List.take_of_length_le (by rw [List.length_drop]; omega)]
  · rw [Nat.min_eq_right q, List.drop_length, List.drop_of_length_le q, List.take_nil, List.take_nil]
theorem cut_last : cutL ds none (some (-1)) = ds.dropLast := by
  unfold cutL
  show ((ds.drop 0).take (((-1 : Int) + (ds.length : Int)).toNat - 0)) = _
  rw [List.drop_zero, List.dropLast_eq_take]
  congr 1; omega
theorem cut_in : cutL ds (some 1) (some (-1)) = ds.tail.dropLast := by
  unfold cutL
  rw [sIx_at (i := 1) (by omega)]
  show ((ds.drop (min (1 : Int).toNat ds.length)).take (((-1 : Int) + (ds.length : Int)).toNat - min (1 : Int).toNat ds.length)) = _
  cases ds with
  | nil => simp
  | cons a l =>
    have e : min (1 : Int).toNat (a :: l).length = 1 := by simp
    rw [e, List.drop_one, List.dropLast_eq_take, List.tail_cons]
    congr 1
    rw [List.length_cons]; omega
theorem cut_back (h : 0 < j) : cutL ds (some (-j)) none = ds.drop (ds.length - j.toNat) := by
  unfold cutL
  have e : HT.sIx ds.length 0 (some (-j)) = ds.length - j.toNat := by
    show (if -j < 0 then (-j + (ds.length : Int)).toNat else _) = _
    rw [if_pos (by omega)]; omega
  rw [e, HT.sIx_none, List.take_of_length_le (by rw [List.length_drop]; omega)]
theorem cut_len {lo hi : Option Int} : (cutL ds lo hi).length ≤ ds.length := by
  unfold cutL
  rw [List.length_take, List.length_drop]; omega
theorem cut_mem {lo hi : Option Int} {d : α} (h : d ∈ cutL ds lo hi) : d ∈ ds := List.mem_of_mem_drop (List.mem_of_mem_take h)
theorem cutS_len {z : Str} {lo hi : Option Int} : (cutS z lo hi).length ≤ z.length := L2.cutS_length z lo hi
theorem cutS_cps {z : Str} {lo hi : Option Int} : (cutS z lo hi).cps.toList = cutL z.cps.toList lo hi := by
  unfold cutS cutL
  rw [Array.length_toList]; rfl
end
theorem strOk_iff {z : Str} : PyData.strOk z = true ↔ ∀ c ∈ z.cps.toList, c < 0x110000 := by
  unfold PyData.strOk
  rw [← Array.all_toList, List.all_eq_true]
  simp
theorem strOk_cut {z : Str} {lo hi : Option Int} (h : PyData.strOk z = true) : PyData.strOk (cutS z lo hi) = true := by
  rw [strOk_iff] at h ⊢
  intro c hc
  rw [cutS_cps] at hc
  exact h c (cut_mem hc)
theorem append_cps {a b : Str} : (a ++ b).cps.toList = a.cps.toList ++ b.cps.toList := by
  show (a.cps ++ b.cps).toList = _
  simp
theorem strOk_add {a b : Str} (h : PyData.strOk a = true) (h2 : PyData.strOk b = true) : PyData.strOk (a ++ b) = true := by
  rw [strOk_iff] at *
  intro c hc
  rw [append_cps] at hc
  exact (List.mem_append.mp hc).elim (h c) (h2 c)
theorem strOk_rev {a : Str} (h : PyData.strOk a = true) : PyData.strOk (revS a) = true := by
  rw [strOk_iff] at *
  intro c hc
  have : c ∈ a.cps.toList.reverse := by simpa [revS] using hc
  exact h c (List.mem_reverse.mp this)
theorem len_add {a b : Str} : (a ++ b).length = a.length + b.length := by
  have := congrArg List.length (append_cps (a := a) (b := b))
  simpa [Str.length] using this
theorem len_rev {a : Str} : (revS a).length = a.length := by
  show a.cps.toList.reverse.toArray.size = a.cps.size
  simp

/-! ### small data -/
/-- whole numbers under 2 ^ s, texts, lists and tuples of at most s; n deep -/
def Tm (s : Nat) : Nat → D → Prop
  | _, .none => True
  | _, .bool _ => True
  | _, .int i => i.natAbs < 2 ^ s
  | _, .str x => PyData.strOk x = true ∧ x.length ≤ s
  | n + 1, .list ds => ds.length ≤ s ∧ ∀ d ∈ ds, Tm s n d
  | n + 1, .tuple ds => ds.length ≤ s ∧ ∀ d ∈ ds, Tm s n d
  | _, _ => False
section
variable {s s' n m : Nat} {d : D} {ds : List D} {x : Str} {i : Int} {b : Bool}
@[simp] theorem tm_none : Tm s n .none := by cases n <;> trivial
@[simp] theorem tm_bool : Tm s n (.bool b) := by cases n <;> trivial
@[simp] theorem tm_int : Tm s n (.int i) ↔ i.natAbs < 2 ^ s := by cases n <;> exact Iff.rfl
@[simp] theorem tm_str : Tm s n (.str x) ↔ PyData.strOk x = true ∧ x.length ≤ s := by cases n <;> exact Iff.rfl
@[simp] theorem tm_list : Tm s (n + 1) (.list ds) ↔ ds.length ≤ s ∧ ∀ d ∈ ds, Tm s n d := Iff.rfl
@[simp] theorem tm_tuple : Tm s (n + 1) (.tuple ds) ↔ ds.length ≤ s ∧ ∀ d ∈ ds, Tm s n d := Iff.rfl
theorem tm_dict {kvs : List (D × D)} : ¬ Tm s n (.dict kvs) := by cases n <;> exact fun z => z
theorem tm_list' (h : Tm s n (.list ds)) : ∃ m, n = m + 1 ∧ ds.length ≤ s ∧ ∀ d ∈ ds, Tm s m d := by
  cases n with
  | zero => exact h.elim
  | succ n => exact ⟨n, rfl, h⟩
theorem tm_tuple' (h : Tm s n (.tuple ds)) : ∃ m, n = m + 1 ∧ ds.length ≤ s ∧ ∀ d ∈ ds, Tm s m d := by
  cases n with
  | zero => exact h.elim
  | succ n => exact ⟨n, rfl, h⟩
theorem Tm.mono (hs : s ≤ s') : ∀ {n m : Nat} {d : D}, n ≤ m → Tm s n d → Tm s' m d
  | n, m, .none, _, _ => tm_none
  | n, m, .bool _, _, _ => tm_bool
  | n, m, .int i, _, h => tm_int.mpr (Nat.lt_of_lt_of_le (tm_int.mp h) (Nat.pow_le_pow_right (by omega) hs))
  | n, m, .str x, _, h => tm_str.mpr ⟨(tm_str.mp h).1, Nat.le_trans (tm_str.mp h).2 hs⟩
  | 0, m, .list ds, _, h => h.elim
  | 0, m, .tuple ds, _, h => h.elim
  | n, m, .dict _, _, h => (tm_dict h).elim
  | n + 1, 0, _, hn, _ => absurd hn (by omega)
  | n + 1, m + 1, .list ds, hn, h => ⟨Nat.le_trans h.1 hs, fun d hd => Tm.mono hs (Nat.le_of_succ_le_succ hn) (h.2 d hd)⟩
  | n + 1, m + 1, .tuple ds, hn, h => ⟨Nat.le_trans h.1 hs, fun d hd => Tm.mono hs (Nat.le_of_succ_le_succ hn) (h.2 d hd)⟩
theorem canLayAll_iff : ∀ {ds : List D}, PyData.canLayAll0 ds = true ↔ ∀ d ∈ ds, d.canLay0 = true
  | [] => by simp [PyData.canLayAll0]
  | d :: ds => by simp [PyData.canLayAll0, canLayAll_iff (ds := ds)]
theorem depthAll_le {k : Nat} : ∀ {ds : List D}, PyData.depthAll ds ≤ k ↔ ∀ d ∈ ds, d.depth ≤ k
  | [] => by simp [PyData.depthAll]
  | d :: ds => by simp [PyData.depthAll, Nat.max_le, depthAll_le (ds := ds)]
theorem Tm.lay : ∀ {n : Nat} {d : D}, Tm s n d → d.canLay0 = true ∧ d.depth ≤ n
  | n, .none, _ => by simp [PyData.canLay0, PyData.depth]
  | n, .bool _, _ => by simp [PyData.canLay0, PyData.depth]
  | n, .int _, _ => by simp [PyData.canLay0, PyData.depth]
  | n, .str x, h => by simp [PyData.canLay0, PyData.depth, (tm_str.mp h).1]
  | n, .dict _, h => (tm_dict h).elim
  | 0, .list _, h => h.elim
  | 0, .tuple _, h => h.elim
  | n + 1, .list ds, h => by
    have h1 : PyData.canLayAll0 ds = true := canLayAll_iff.mpr fun d hd => (Tm.lay (h.2 d hd)).1
    have h2 : PyData.depthAll ds ≤ n := depthAll_le.mpr fun d hd => (Tm.lay (h.2 d hd)).2
    simp only [PyData.canLay0, PyData.depth]
    exact ⟨h1, by omega⟩
  | n + 1, .tuple ds, h => by
    have h1 : PyData.canLayAll0 ds = true := canLayAll_iff.mpr fun d hd => (Tm.lay (h.2 d hd)).1
    have h2 : PyData.depthAll ds ≤ n := depthAll_le.mpr fun d hd => (Tm.lay (h.2 d hd)).2
    simp only [PyData.canLay0, PyData.depth]
    exact ⟨h1, by omega⟩
theorem Tm.ok (h : Tm s n d) (hn : n ≤ 64) : cmpOk d = true := by
  unfold cmpOk SeqAt.shaped
  rw [h.lay.1, Bool.true_and]
  exact decide_eq_true (Nat.le_trans h.lay.2 hn)
theorem atI_mem {k : Int} (h0 : 0 ≤ k) (h : k < ds.length) : ∃ d, d ∈ ds ∧ atI ds k = some d := by
  have hl : k.toNat < ds.length := by omega
  exact ⟨ds[k.toNat], List.getElem_mem hl, by rw [zatI_nat k h0, List.getElem?_eq_getElem hl]⟩
end
end Z

namespace Z
open PySem L2

/-! ### comprehensions -/
section
variable {f : D → Gam → R} {vs : List Nat} {g g0 g3 : Gam} {kS : KS}
theorem compR_map (h : D → D) (G : D → Gam) : ∀ {ds : List D} {acc : List D}, (∀ d ∈ ds, f d (toRf g) = .va (.sh (h d)) (G d)) → (∀ d ∈ ds, (G d).length = g.length) → (∀ d ∈ ds, wipeG (back g (G d)) vs = g) →
    compR f vs ds g acc = some (acc ++ ds.map h, g)
  | [], acc, _, _, _ => by simp [compR]
  | d :: ds, acc, hf, hl, hb => by
    unfold compR
    simp only [hf d List.mem_cons_self, hl d List.mem_cons_self, hb d List.mem_cons_self, if_true]
    rw [compR_map h G (fun e he => hf e (List.mem_cons_of_mem _ he)) (fun e he => hl e (List.mem_cons_of_mem _ he)) fun e he => hb e (List.mem_cons_of_mem _ he)]
    simp
theorem compR_fil (p : D → Bool) (h : D → D) (G : D → Gam) : ∀ {ds : List D} {acc : List D}, (∀ d ∈ ds, f d (toRf g) = if p d = true then .va (.sh (h d)) (G d) else .nx (G d)) → (∀ d ∈ ds, (G d).length = g.length) → (∀ d ∈ ds, wipeG (back g (G d)) vs = g) →
    compR f vs ds g acc = some (acc ++ (ds.filter p).map h, g)
  | [], acc, _, _, _ => by simp [compR]
  | d :: ds, acc, hf, hl, hb => by
    unfold compR
    rw [hf d List.mem_cons_self]
    have ih := fun acc => compR_fil p h G (ds := ds) (acc := acc) (fun e he => hf e (List.mem_cons_of_mem _ he)) (fun e he => hl e (List.mem_cons_of_mem _ he)) fun e he => hb e (List.mem_cons_of_mem _ he)
    cases hp : p d with
    | true =>
      simp only [hl d List.mem_cons_self, hb d List.mem_cons_self, if_true]
      rw [ih]; simp [hp]
    | false =>
      simp only [Bool.false_eq_true, if_false, hl d List.mem_cons_self, hb d List.mem_cons_self, if_true]
      rw [ih]; simp [hp]
theorem restW_self {vs : List Nat} {g : Gam} : restW vs g (wipeG g vs) = g := by
  apply List.ext_getElem?
  intro i
  unfold restW
  rw [List.getElem?_map, wipeG_length]
  by_cases hi : i < g.length
  · rw [List.getElem?_range hi]
    show some (if i ∈ vs then (g[i]?).getD .no else ((wipeG g vs)[i]?).getD .no) = g[i]?
    rw [wipeG_get]
    by_cases hv : i ∈ vs
    · rw [if_pos hv, List.getElem?_eq_getElem hi]; rfl
    · rw [if_neg hv, if_neg hv, List.getElem?_eq_getElem hi]; rfl
  · rw [List.getElem?_eq_none (by simpa using hi), List.getElem?_eq_none (by simpa using hi)]; rfl
theorem lcK_map (h : D → D) (G : D → Gam) {ds : List D} (hw : okW vs g = true) (h0 : wipeG g vs = g0) (hl : ∀ d ∈ ds, (G d).length = g0.length) (hb : ∀ d ∈ ds, wipeG (back g0 (G d)) vs = g0) (hf : ∀ d ∈ ds, f d (toRf g0) = .va (.sh (h d)) (G d)) :
    lcK vs f ds g kS = kS (.ow (.list (ds.map h))) g := lcK_of hw (by rw [h0]; simpa using compR_map (acc := []) h G hf hl hb) (by rw [← h0]; exact restW_self)
theorem lcK_fil (p : D → Bool) (h : D → D) (G : D → Gam) {ds : List D} (hw : okW vs g = true) (h0 : wipeG g vs = g0) (hl : ∀ d ∈ ds, (G d).length = g0.length) (hb : ∀ d ∈ ds, wipeG (back g0 (G d)) vs = g0) (hf : ∀ d ∈ ds, f d (toRf g0) = if p d = true then .va (.sh (h d)) (G d) else .nx (G d)) :
    lcK vs f ds g kS = kS (.ow (.list ((ds.filter p).map h))) g := lcK_of hw (by rw [h0]; simpa using compR_fil (acc := []) p h G hf hl hb) (by rw [← h0]; exact restW_self)
theorem compR_enc {γ : Type} (enc h : γ → D) (p : γ → Bool) (G : γ → Gam) : ∀ {xs : List γ} {acc : List D}, (∀ x ∈ xs, f (enc x) (toRf g) = if p x = true then .va (.sh (h x)) (G x) else .nx (G x)) → (∀ x ∈ xs, (G x).length = g.length) → (∀ x ∈ xs, wipeG (back g (G x)) vs = g) →
    compR f vs (xs.map enc) g acc = some (acc ++ (xs.filter p).map h, g)
  | [], acc, _, _, _ => by simp [compR]
  | d :: ds, acc, hf, hl, hb => by
    rw [List.map_cons]
    unfold compR
    rw [hf d List.mem_cons_self]
    have ih := fun acc => compR_enc enc h p G (xs := ds) (acc := acc) (fun e he => hf e (List.mem_cons_of_mem _ he)) (fun e he => hl e (List.mem_cons_of_mem _ he)) fun e he => hb e (List.mem_cons_of_mem _ he)
    cases hp : p d with
    | true =>
      simp only [hl d List.mem_cons_self, hb d List.mem_cons_self, if_true]
      rw [ih]; simp [hp]
    | false =>
      simp only [Bool.false_eq_true, if_false, hl d List.mem_cons_self, hb d List.mem_cons_self, if_true]
      rw [ih]; simp [hp]
theorem lcK_encF {γ : Type} (enc h : γ → D) (p : γ → Bool) (G : γ → Gam) {xs : List γ} (hw : okW vs g = true) (h0 : wipeG g vs = g0) (hl : ∀ x ∈ xs, (G x).length = g0.length) (hb : ∀ x ∈ xs, wipeG (back g0 (G x)) vs = g0) (hf : ∀ x ∈ xs, f (enc x) (toRf g0) = if p x = true then .va (.sh (h x)) (G x) else .nx (G x)) :
    lcK vs f (xs.map enc) g kS = kS (.ow (.list ((xs.filter p).map h))) g := lcK_of hw (by rw [h0]; simpa using compR_enc (acc := []) enc h p G hf hl hb) (by rw [← h0]; exact restW_self)
theorem lcK_enc {γ : Type} (enc h : γ → D) (G : γ → Gam) {xs : List γ} (hw : okW vs g = true) (h0 : wipeG g vs = g0) (hl : ∀ x ∈ xs, (G x).length = g0.length) (hb : ∀ x ∈ xs, wipeG (back g0 (G x)) vs = g0) (hf : ∀ x ∈ xs, f (enc x) (toRf g0) = .va (.sh (h x)) (G x)) :
    lcK vs f (xs.map enc) g kS = kS (.ow (.list (xs.map h))) g := by
  have := lcK_encF (f := f) (kS := kS) enc h (fun _ => true) G hw h0 hl hb (fun x hx => by rw [hf x hx]; rfl)
  rw [List.filter_eq_self.mpr (fun _ _ => rfl)] at this
  exact this
/-- one that draws: the slots by a state b -/
theorem compR_st {β : Type} (S : β → Gam) (P : β → Prop) (Q : D → Prop) : ∀ {ds : List D}, (∀ b d, d ∈ ds → P b → ∃ y b' g', f d (toRf (S b)) = .va (.sh y) g' ∧ g'.length = (S b).length ∧ wipeG (back (S b) g') vs = S b' ∧ P b' ∧ Q y) →
    ∀ {b : β} {acc : List D}, P b → ∃ out b', compR f vs ds (S b) acc = some (acc ++ out, S b') ∧ P b' ∧ out.length = ds.length ∧ ∀ d ∈ out, Q d
  | [], _, b, acc, hb => ⟨[], b, by simp [compR], hb, rfl, by simp⟩
  | d :: ds, hstep, b, acc, hb => by
    obtain ⟨y, b1, g', e1, e2, e3, e4, e5⟩ := hstep b d List.mem_cons_self hb
    obtain ⟨out, b2, h1, h2, h3, h4⟩ := compR_st S P Q (ds := ds) (fun b e he => hstep b e (List.mem_cons_of_mem _ he)) (b := b1) (acc := acc ++ [y]) e4
    refine ⟨y :: out, b2, ?_, h2, by rw [List.length_cons, List.length_cons, h3], ?_⟩
    · unfold compR
      simp only [e1, e2, e3, if_true]
      rw [h1]; simp
    · intro e he
      rcases List.mem_cons.mp he with rfl | he
      · exact e5
      · exact h4 e he
/-- .. as a whole: T b the slots behind -/
theorem lcK_st {β : Type} (S T : β → Gam) (P : β → Prop) (Q : D → Prop) {ds : List D} {b : β} (hw : okW vs g = true) (h0 : wipeG g vs = S b) (h3 : ∀ b', restW vs g (S b') = T b') (hb : P b)
    (hstep : ∀ b d, d ∈ ds → P b → ∃ y b' g', f d (toRf (S b)) = .va (.sh y) g' ∧ g'.length = (S b).length ∧ wipeG (back (S b) g') vs = S b' ∧ P b' ∧ Q y) :
    ∃ out b', (∀ kS : KS, lcK vs f ds g kS = kS (.ow (.list out)) (T b')) ∧ P b' ∧ out.length = ds.length ∧ ∀ d ∈ out, Q d := by
  obtain ⟨out, b', e, h1, h2, h3'⟩ := compR_st S P Q hstep (acc := []) hb
  exact ⟨out, b', fun kS => lcK_of hw (by rw [h0]; simpa using e) (h3 b'), h1, h2, h3'⟩
/-! ### for -/
/-- a loop that goes through: the slots by a state b -/
theorem forR_st {β : Type} (S : β → Gam) (step : β → D → β) (P : β → Prop) (hstep : ∀ b d, P b → P (step b d) ∧ ∃ g', f d (S b) = .nx g' ∧ g'.length = g0.length ∧ mask g0 g' = S (step b d)) :
    ∀ {ds : List D} {b : β}, P b → forR f g0 ds (S b) = .nx (S (ds.foldl step b)) ∧ P (ds.foldl step b)
  | [], b, hb => ⟨rfl, hb⟩
  | d :: ds, b, hb => by
    obtain ⟨h1, g', e1, e2, e3⟩ := hstep b d hb
    unfold forR
    simp only [e1, e2, e3, if_true]
    exact forR_st S step P hstep h1
/-- a loop that may end with False -/
theorem forR_all {β : Type} (S : β → Gam) (P : β → Prop) (r : β → D → Option R) (hstep : ∀ b d, P b → (∃ x, r b d = some x ∧ f d (S b) = x ∧ ∃ s g, x = .ret s g) ∨ (r b d = none ∧ ∃ b' g', f d (S b) = .nx g' ∧ g'.length = g0.length ∧ mask g0 g' = S b' ∧ P b')) :
    ∀ {ds : List D} {b : β}, P b → (∃ b', forR f g0 ds (S b) = .nx (S b') ∧ P b') ∨ ∃ s g, forR f g0 ds (S b) = .ret s g
  | [], b, hb => .inl ⟨b, rfl, hb⟩
  | d :: ds, b, hb => by
    rcases hstep b d hb with ⟨x, _, e2, s, g, e3⟩ | ⟨_, b', g', e1, e2, e3, e4⟩
    · subst e3
      exact .inr ⟨s, g, by unfold forR; rw [e2]⟩
    · unfold forR
      simp only [e1, e2, e3, if_true]
      exact forR_all S P r hstep e4
/-- a loop of draws that goes through -/
theorem forR_ex {β : Type} (S : β → Gam) (P : β → Prop) (hstep : ∀ b d, P b → ∃ b' g', f d (S b) = .nx g' ∧ g'.length = g0.length ∧ mask g0 g' = S b' ∧ P b') :
    ∀ {ds : List D} {b : β}, P b → ∃ b', forR f g0 ds (S b) = .nx (S b') ∧ P b'
  | [], b, hb => ⟨b, rfl, hb⟩
  | d :: ds, b, hb => by
    obtain ⟨b', g', e1, e2, e3, e4⟩ := hstep b d hb
    unfold forR
    simp only [e1, e2, e3, if_true]
    exact forR_ex S P hstep e4
/-- a loop, by the number of its turn: it goes through, or returns -/
theorem forR_idx {β : Type} (S : β → Gam) (P : Nat → β → Prop) (Q : Sl → Gam → Prop) : ∀ {ds : List D} {n : Nat} {b : β}, (∀ i b d, ds[i]? = some d → P (n + i) b → (∃ b' g', f d (S b) = .nx g' ∧ g'.length = g0.length ∧ mask g0 g' = S b' ∧ P (n + i + 1) b') ∨ ∃ s g, f d (S b) = .ret s g ∧ Q s g) →
    P n b → (∃ b', forR f g0 ds (S b) = .nx (S b') ∧ P (n + ds.length) b') ∨ ∃ s g, forR f g0 ds (S b) = .ret s g ∧ Q s g
  | [], n, b, _, hb => .inl ⟨b, rfl, hb⟩
  | d :: ds, n, b, hstep, hb => by
    rcases hstep 0 b d rfl hb with ⟨b', g', e1, e2, e3, e4⟩ | ⟨s, g, e1, e2⟩
    · have := forR_idx S P Q (ds := ds) (n := n + 1) (b := b') (fun i b e he hp => by
        have := hstep (i + 1) b e (by simpa using he) (by have e : n + (i + 1) = n + 1 + i := by omega
                                                          rw [e]; exact hp)
        have e : n + (i + 1) + 1 = n + 1 + i + 1 := by omega
        rw [e] at this
        exact this) e4
      unfold forR
      simp only [e1, e2, e3, if_true]
      have e : n + (d :: ds).length = n + 1 + ds.length := by rw [List.length_cons]; omega
      rw [e]
      exact this
    · exact .inr ⟨s, g, by unfold forR; rw [e1], e2⟩
/-- a loop that goes through, by the number of its turn -/
theorem forR_nx {β : Type} (S : β → Gam) (P : Nat → β → Prop) {ds : List D} {b : β} (hstep : ∀ i b d, ds[i]? = some d → P i b → ∃ b' g', f d (S b) = .nx g' ∧ g'.length = g0.length ∧ mask g0 g' = S b' ∧ P (i + 1) b') (hb : P 0 b) :
    ∃ b', forR f g0 ds (S b) = .nx (S b') ∧ P ds.length b' := by
  rcases forR_idx (f := f) (g0 := g0) S P (fun _ _ => False) (ds := ds) (n := 0) (b := b) (fun i b d h hp => .inl (by
    have := hstep i b d h (by simpa using hp)
    simpa using this)) hb with ⟨b', e, h⟩ | ⟨_, _, _, h⟩
  · exact ⟨b', e, by simpa using h⟩
  · exact h.elim
/-- a loop over encoded things; P by what is still to come -/
theorem forR_map {β γ : Type} (enc : γ → D) (S : β → Gam) (step : β → γ → β) (P : Nat → β → Prop) : ∀ {xs : List γ} {b : β}, (∀ n b x, x ∈ xs → P (n + 1) b → P n (step b x) ∧ ∃ g', f (enc x) (S b) = .nx g' ∧ g'.length = g0.length ∧ mask g0 g' = S (step b x)) →
    P xs.length b → forR f g0 (xs.map enc) (S b) = .nx (S (xs.foldl step b))
  | [], b, _, hb => rfl
  | x :: xs, b, hstep, hb => by
    obtain ⟨h1, g', e1, e2, e3⟩ := hstep xs.length b x List.mem_cons_self hb
    rw [List.map_cons]
    unfold forR
    simp only [e1, e2, e3, if_true]
    exact forR_map enc S step P (fun n b y hy => hstep n b y (List.mem_cons_of_mem _ hy)) h1
theorem forR_exI {β : Type} (S : β → Gam) (P : β → Prop) {ds : List D} (hstep : ∀ b d, d ∈ ds → P b → ∃ b' g', f d (S b) = .nx g' ∧ g'.length = g0.length ∧ mask g0 g' = S b' ∧ P b') :
    ∀ {b : β}, P b → ∃ b', forR f g0 ds (S b) = .nx (S b') ∧ P b' := by
  induction ds with
  | nil => exact fun {b} hb => ⟨b, rfl, hb⟩
  | cons d ds ih =>
    intro b hb
    obtain ⟨b', g', e1, e2, e3, e4⟩ := hstep b d List.mem_cons_self hb
    unfold forR
    simp only [e1, e2, e3, if_true]
    exact ih (fun b e he => hstep b e (List.mem_cons_of_mem _ he)) e4
end
end Z

namespace Z
open PySem L2

theorem log_lt {x : Int} {s : Nat} (h : x.natAbs < 2 ^ s) (hs : s ≤ 1900) : x.natAbs.log2 < 1920 := by
  by_cases h0 : x.natAbs = 0
  · rw [h0]; decide
  · have : x.natAbs.log2 < s := (Nat.log2_lt h0).mpr h
    omega
theorem pow_dbl {s : Nat} {x : Int} (h : x.natAbs < 2 ^ s) : (2 * x).natAbs < 2 ^ (8 * s + 8) := by
  have h1 : 2 ^ (s + 1) ≤ 2 ^ (8 * s + 8) := Nat.pow_le_pow_right (by omega) (by omega)
  have h2 : 2 ^ (s + 1) = 2 * 2 ^ s := by rw [Nat.pow_succ]; omega
  omega
theorem pow_one {s : Nat} {x y : Int} (h : x.natAbs < 2 ^ s) (hy : y.natAbs ≤ 128) : (x + y).natAbs < 2 ^ (8 * s + 8) := by
  have h1 : 2 ^ (s + 8) ≤ 2 ^ (8 * s + 8) := Nat.pow_le_pow_right (by omega) (by omega)
  have h2 : 2 ^ (s + 8) = 256 * 2 ^ s := by rw [Nat.pow_add]; omega
  have h3 : 0 < 2 ^ s := Nat.pow_pos (by omega)
  omega
theorem lit_small {s : Nat} {x : Int} (hx : x.natAbs < 256) : x.natAbs < 2 ^ (8 * s + 8) := by
  have h1 : 2 ^ 8 ≤ 2 ^ (8 * s + 8) := Nat.pow_le_pow_right (by omega) (by omega)
  omega
theorem fin_pickP {P : D → Prop} {L : List D} {k : Int} {g : Gam} {s1 : D} (h0 : 0 ≤ k) (h : k < L.length) (hs : St s1) (hp : ∀ d ∈ L, P d) :
    ∃ v' st', (∀ K, okR1 (endR [0] (kopD (atI L k) (.rf s1 :: g) fun d g' => .ret (.sh d) g')) K = K (.sh v') st') ∧ St st' ∧ P v' := by
  obtain ⟨d, dm, de⟩ := atI_mem h0 h
  exact ⟨d, s1, fun K => by rw [zat_of de]; rfl, hs, hp d dm⟩
theorem fin_pick {L : List D} {k : Int} {g : Gam} {s1 : D} {S M : Nat} (h0 : 0 ≤ k) (h : k < L.length) (hs : St s1) (hp : ∀ d ∈ L, Tm S M d) :
    ∃ v' st', (∀ K, okR1 (endR [0] (kopD (atI L k) (.rf s1 :: g) fun d g' => .ret (.sh d) g')) K = K (.sh v') st') ∧ St st' ∧ Tm S M v' := by
  obtain ⟨d, dm, de⟩ := atI_mem h0 h
  exact ⟨d, s1, fun K => by rw [zat_of de]; rfl, hs, hp d dm⟩
theorem len_lit {z : Str} {y : Str} (h : z.length ≤ 1000) (hy : y.length ≤ 1000) : z.length + y.length ≤ sizeLine ∧ y.length + z.length ≤ sizeLine ∧ z.length ≤ sizeLine := by
  have := sizeLine_eq; omega
theorem strOk_of (x : String) : PyData.strOk (Str.ofString x) = true := by
  rw [strOk_iff, Str.ofString_eq_toList]
  intro c hc
  have hc : c ∈ x.toList.map Char.toNat := by simpa using hc
  obtain ⟨ch, _, rfl⟩ := List.mem_map.mp hc
  have : ch.val.toNat < 0xd800 ∨ 0xdfff < ch.val.toNat ∧ ch.val.toNat < 0x110000 := ch.valid
  show ch.val.toNat < 0x110000
  omega
theorem len_of (x : String) : (Str.ofString x).length = x.length := by
  rw [Str.ofString_eq_toList]
  show (x.toList.map Char.toNat).toArray.size = _
  rw [List.size_toArray, List.length_map, String.length_toList]
theorem repr_ok {i : Int} : PyData.strOk (Str.ofString i.repr) = true := strOk_of _
theorem repr_len {i : Int} {s : Nat} (h : i.natAbs < 2 ^ s) : (Str.ofString i.repr).length ≤ 8 * s + 8 := by
  rw [len_of]
  have h2 : i.natAbs < 2 ^ (s + 1) := Nat.lt_of_lt_of_le h (Nat.pow_le_pow_right (by omega) (by omega))
  cases i with
  | ofNat n =>
    have := nat_repr_length_le (n := n) (k := s + 1) (by omega) h2
    show (Nat.repr n).length ≤ _
    omega
  | negSucc n =>
    have := nat_repr_length_le (n := n + 1) (k := s + 1) (by omega) h2
    show ("-" ++ Nat.repr (n + 1)).length ≤ _
    rw [String.length_append]
    have : ("-" : String).length = 1 := by decide
    omega
theorem ofOk {x : Str} (h : PyData.strOk x = true := by decide +kernel) : PyData.strOk x = true := h
/-- made of ds and 0, at most n of them -/
def Bl (ds : List D) (n : Nat) (L : List D) : Prop := L.length ≤ n ∧ ∀ d ∈ L, d ∈ ds ∨ d = .int 0
section
variable {ds L L' : List D} {n m k : Nat}
theorem bl_self : Bl ds ds.length ds := ⟨Nat.le_refl _, fun _ h => .inl h⟩
theorem bl_take : Bl ds ds.length (ds.take k) := ⟨by rw [List.length_take]; omega, fun _ h => .inl (List.mem_of_mem_take h)⟩
theorem bl_drop : Bl ds ds.length (ds.drop k) := ⟨by rw [List.length_drop]; omega, fun _ h => .inl (List.mem_of_mem_drop h)⟩
theorem bl_td {j : Nat} : Bl ds ds.length ((ds.drop j).take k) := ⟨by rw [List.length_take, List.length_drop]; omega, fun _ h => .inl (List.mem_of_mem_drop (List.mem_of_mem_take h))⟩
theorem bl_rev : Bl ds ds.length ds.reverse := ⟨by rw [List.length_reverse]; omega, fun _ h => .inl (List.mem_reverse.mp h)⟩
theorem bl_nil : Bl ds 0 [] := ⟨Nat.le_refl _, fun _ h => nomatch h⟩
theorem bl_zero : Bl ds 1 [.int 0] := ⟨Nat.le_refl _, fun _ h => .inr (List.mem_singleton.mp h)⟩
theorem bl_app (a : Bl ds n L) (b : Bl ds m L') : Bl ds (n + m) (L ++ L') := ⟨by rw [List.length_append]; have := a.1; have := b.1; omega, fun d h => (List.mem_append.mp h).elim (a.2 d) (b.2 d)⟩
end
/-- the end of _law_changed -/
def tail_changed : DnT :=
  (seqT (asgT 2 (callRC 0 d__law_next (consC (fz (binF addS (opsD lenD (consC (borC 1) nilC)) (conC (.int 1)))) nilC)))
  (seqT (asgT 3 (callRC 0 d__law_next (consC (fz (binF addS (opsD lenD (consC (borC 1) nilC)) (conC (.int 1)))) nilC)))
  (seqT (asgT 4 (lstC (consC (fz (binF addS (fz (slcC (borC 1) noO (atO (borC 2)))) (fz (slcC (borC 1) (atO (fz (binF addS (borC 2) (conC (.int 1))))) noO)))) (consC (fz (binF addS (borC 1) (fz (slcC (borC 1) noO (atO (conC (.int 1))))))) (consC (fz (unF revF (borC 1))) (consC (fz (binF addS (fz (slcC (borC 1) (atO (borC 2)) noO)) (fz (slcC (borC 1) noO (atO (borC 2)))))) (consC (fz (opsF listF (consC (borC 1) nilC))) (consC (fz (slcC (borC 1) noO (atO (borC 2)))) (consC (tupC nilC) (consC (fz (binF addS (borC 1) (tupC (consC (conC (.int 0)) nilC)))) nilC))))))))))
  (seqT (iffT (chnB ltB ltB (borC 2) (borC 3) (opsD lenD (consC (borC 1) nilC)))
  (asgT 4 (binF addS (varC 4) (fz (lcC [6] (rng1I (conC (.int 3))) (nameG 6) yesB (fz (binF addS (fz (binF addS (fz (binF addS (fz (binF addS (fz (slcC (borC 1) noO (atO (borC 2)))) (fz (slcC (borC 1) (atO (borC 3)) (atO (fz (binF addS (borC 3) (conC (.int 1))))))))) (fz (slcC (borC 1) (atO (fz (binF addS (borC 2) (conC (.int 1))))) (atO (borC 3)))))) (fz (slcC (borC 1) (atO (borC 2)) (atO (fz (binF addS (borC 2) (conC (.int 1))))))))) (fz (slcC (borC 1) (atO (fz (binF addS (borC 3) (conC (.int 1))))) noO))))))))
  skipT)
  (retT (shF (binD ixD (varC 4) (fz (callRC 0 d__law_next (consC (opsD lenD (consC (borC 4) nilC)) nilC))))))))))
theorem changed_eq (r : Fd) : b__law_changed r =
  (seqT (iffT (truB (isiC ["bool"] (borC 1)))
  (retT (shF (binD ixD (fz (lstC (consC (notV (borC 1)) (consC (opsD intD (consC (borC 1) nilC)) nilC)))) (fz (callRC 0 d__law_next (consC (conC (.int 2)) nilC))))))
  skipT)
  (seqT (iffT (orB (binB isNoneB (borC 1) (conC .none)) (truB (isiC ["int"] (borC 1))))
  (retT (shF (binD ixD (fz (lstC (consC (fz (binF addS (orV (varC 1) (conC (.int 0))) (conC (.int 1)))) (consC (binD subD (orV (varC 1) (conC (.int 0))) (conC (.int 1))) (consC (conC (.int 0)) (consC (conC .none) (consC (binD (opBD eqB) (borC 1) (conC (.int 1))) (consC (opsD strD (consC (borC 1) nilC)) (consC (binD mulD (conC (.int 2)) (orV (varC 1) (conC (.int 1)))) nilC))))))))) (fz (callRC 0 d__law_next (consC (conC (.int 7)) nilC))))))
  skipT)
  (seqT (iffT (truB (isiC ["str"] (borC 1)))
  (seqT (asgT 5 (lstC (consC (fz (slcC (borC 1) (atO (conC (.int 1))) noO)) (consC (fz (binF addS (borC 1) (conC (.str "a")))) (consC (fz (unF revF (borC 1))) (consC (fz (binF addS (conC (.str "b")) (borC 1))) (consC (conC (.str "")) (consC (fz (slcC (borC 1) noO (atO (unD negD (conC (.int 1)))))) (consC (conC (.str "left")) (consC (conC (.int 3)) (consC (conC (.str "in")) nilC)))))))))))
  (retT (shF (binD ixD (varC 5) (fz (callRC 0 d__law_next (consC (opsD lenD (consC (borC 5) nilC)) nilC)))))))
  skipT)
  (seqT (iffT (andB (truB (isiC ["tuple"] (borC 1))) (andB (binB neB (borC 1) (tupC nilC)) (binB gtB (fz (callRC 0 d__law_next (consC (conC (.int 4)) nilC))) (conC (.int 0)))))
  (seqT (asgT 2 (callRC 0 d__law_next (consC (opsD lenD (consC (borC 1) nilC)) nilC)))
  (retT (binF addS (fz (binF addS (fz (slcC (borC 1) noO (atO (borC 2)))) (tupC (consC (fz (callRC 0 r (consC (binD ixD (borC 1) (borC 2)) nilC))) nilC)))) (fz (slcC (borC 1) (atO (fz (binF addS (borC 2) (conC (.int 1))))) noO)))))
  skipT)
  (seqT (iffT (notB (truB (isiC ["tuple"] (borC 1))))
  (retT (shF (tupC nilC)))
  skipT)
  tail_changed))))) := rfl
theorem changed_step (r : Fd) (N : Nat) (ih : ∀ {n s : Nat} {v st : D}, St st → Tm s n v → n < N → n ≤ 60 → s ≤ 1000 → ∃ v' st', (∀ K, okR1 (r [st, v]) K = K (.sh v') st') ∧ St st' ∧ Tm (8 * s + 8) (n + 1) v')
    {n s : Nat} {v st : D} (hs : St st) (tv : Tm s n v) (hn : n ≤ N) (h60 : n ≤ 60) (h1000 : s ≤ 1000) : ∃ v' st', (∀ K, okR1 (fnD 7 [0] (b__law_changed r) [st, v]) K = K (.sh v') st') ∧ St st' ∧ Tm (8 * s + 8) (n + 1) v' := by
    rw [changed_eq]
    cases v with
    | bool b =>
      obtain ⟨k, s1, e1, h1, h2, hs1⟩ := next_k hs (m := 2) (by decide) (by decide)
      simp [-Rs.ok.injEq, ↓e1]
      exact fin_pick h1 (by simpa using h2) hs1 (by have hp := lit_small (s := s) (x := 255) (by decide); cases b <;> simp <;> omega)
    | none =>
      obtain ⟨k, s1, e1, h1, h2, hs1⟩ := next_k hs (m := 7) (by decide) (by decide)
      simp [-Rs.ok.injEq, ↓e1, nonB, cmpOk_int, cmpOk_none]
      refine fin_pick h1 (by simpa using h2) hs1 ?_
      have z1 : (1 : Int).natAbs < 2 ^ (8 * s + 8) := lit_small (by decide)
      have z2 : (2 : Int).natAbs < 2 ^ (8 * s + 8) := lit_small (by decide)
      have z3 : PyData.strOk "None" = true := by decide +kernel
      have z4 : ("None" : Str).length ≤ 8 * s + 8 := Nat.le_trans (by decide +kernel : ("None" : Str).length ≤ 8) (by omega)
      simp [z3, z4]
      omega
    | int i =>
      obtain ⟨k, s1, e1, h1, h2, hs1⟩ := next_k hs (m := 7) (by decide) (by decide)
      have ti := tm_int.mp tv
      have hlog := log_lt ti (by omega)
      have z1 : (1 : Int).natAbs < 2 ^ (8 * s + 8) := lit_small (by decide)
      have z2 : (2 : Int).natAbs < 2 ^ (8 * s + 8) := lit_small (by decide)
      have z3 := pow_dbl ti
      have z4 := pow_one ti (y := 1) (by decide)
      have z5 := pow_one ti (y := -1) (by decide)
      have z6 : PyData.strOk (Str.ofString i.repr) = true := repr_ok
      have z7 := repr_len ti
      by_cases h0 : i = 0
      · subst h0
        simp [-Rs.ok.injEq, ↓e1, nonB, hlog]
        refine fin_pick h1 (by simpa using h2) hs1 ?_
        simp [z6, z7]
        omega
      · simp [-Rs.ok.injEq, ↓e1, nonB, hlog, h0]
        refine fin_pick h1 (by simpa using h2) hs1 ?_
        simp [z6, z7]
        omega
    | str z =>
      obtain ⟨tz, tl⟩ := tm_str.mp tv
      obtain ⟨k, s1, e1, h1, h2, hs1⟩ := next_k hs (m := 9) (by decide) (by decide)
      have za : PyData.strOk "a" = true := by decide +kernel
      have zb : PyData.strOk "b" = true := by decide +kernel
      have zl : PyData.strOk "left" = true := by decide +kernel
      have zi : PyData.strOk "in" = true := by decide +kernel
      have z0 : PyData.strOk "" = true := by decide +kernel
      have la : ("a" : Str).length = 1 := by decide +kernel
      have lb : ("b" : Str).length = 1 := by decide +kernel
      have ll : ("left" : Str).length = 4 := by decide +kernel
      have li : ("in" : Str).length = 2 := by decide +kernel
      have l0 : ("" : Str).length = 0 := by decide +kernel
      have hz : z.length ≤ sizeLine := by rw [sizeLine_eq]; omega
      have hz1 : z.length + 1 ≤ sizeLine := by rw [sizeLine_eq]; omega
      have hz2 : 1 + z.length ≤ sizeLine := by rw [sizeLine_eq]; omega
      simp [-Rs.ok.injEq, ↓e1, nonB, hz, hz1, hz2, la, lb]
      refine fin_pick h1 (by simpa using h2) hs1 ?_
      have z3 : (3 : Int).natAbs < 2 ^ (8 * s + 8) := lit_small (by decide)
      have c1 : ∀ lo hi, (cutS z lo hi).length ≤ 8 * s + 8 := fun lo hi => Nat.le_trans cutS_len (by omega)
      simp [c1, za, zb, zl, zi, z0, strOk_cut tz, strOk_add za tz, strOk_add tz zb, strOk_add tz za, strOk_add zb tz, strOk_rev tz, len_add, len_rev, la, lb, ll, li, l0]
      omega
    | dict kvs => exact (tm_dict tv).elim
    | list ds =>
      refine ⟨.tuple [], st, fun K => ?_, hs, ?_⟩
      · simp [nonB, tail_changed]
      · simp
    | tuple ds =>
      obtain ⟨m, rfl, dl, dt⟩ := tm_tuple' tv
      have okv : cmpOk (.tuple ds) = true := tv.ok (by omega)
      have ok0 : cmpOk (.tuple []) = true := by decide +kernel
      have core : ∀ {st0 : D}, St st0 → ∃ v' st', (∀ K, okR1 (endR [0] (tail_changed [.rf st0, .sh (.tuple ds), .no, .no, .no, .no, .no] fun g => .ret (.sh .none) g)) K = K (.sh v') st') ∧ St st' ∧ Tm (8 * s + 8) (m + 2) v' := by
        intro st0 hs0
        obtain ⟨k, s1, e1, h1, h2, hs1⟩ := next_k hs0 (m := (ds.length : Int) + 1) (by omega) (by omega)
        obtain ⟨j, s2, e2, g1, g2, hs2⟩ := next_k hs1 (m := (ds.length : Int) + 1) (by omega) (by omega)
        have k1 : 0 ≤ k + 1 := by omega
        have j1 : 0 ≤ j + 1 := by omega
        have hp := lit_small (s := s) (x := 255) (by decide)
        have up : ∀ d ∈ ds, Tm (8 * s + 8) m d := fun d hd => (dt d hd).mono (by omega) (Nat.le_refl _)
        have A : ∀ {L : List D} {q : Nat}, Bl ds q L → q ≤ 8 * s + 8 → Tm (8 * s + 8) (m + 2) (.tuple L) ∧ Tm (8 * s + 8) (m + 2) (.list L) := fun {L q} hb hq => by
          have : ∀ d ∈ L, Tm (8 * s + 8) (m + 1) d := fun d hd => by
            rcases hb.2 d hd with h | rfl
            · exact (up d h).mono (Nat.le_refl _) (by omega)
            · exact tm_int.mpr (lit_small (by decide))
          exact ⟨⟨Nat.le_trans hb.1 hq, this⟩, ⟨Nat.le_trans hb.1 hq, this⟩⟩
        unfold tail_changed
        by_cases hkj : k < j ∧ j < ds.length
        · obtain ⟨hk, hj⟩ := hkj
          obtain ⟨l, s3, e3, l1, l2, hs3⟩ := next_k hs2 (m := 11) (by decide) (by decide)
          simp (disch := first | assumption | (simp only [List.length_append, List.length_cons, List.length_nil, List.length_take, List.length_drop, List.length_reverse, List.length_map, List.length_dropLast, List.length_tail, Int.toNat_natCast, sizeLine_eq]; omega) | omega) [-Rs.ok.injEq, ↓e1, ↓e2, ↓e3, cut_to, cut_from, cut_at, h1, g1, k1, j1, hk, hj]
          rw [e_rngK (by decide +kernel)]
          have e0 : rngD 0 3 = [.int 0, .int 1, .int 2] := rfl
          rw [e0, lcK_map (g0 := [.rf s2, .sh (.tuple ds), .sh (.int k), .sh (.int j), _, .no, .no]) (fun _ => .tuple (List.take k.toNat ds ++ List.take ((j + 1).toNat - j.toNat) (List.drop j.toNat ds) ++ List.take (j.toNat - (k + 1).toNat) (List.drop (k + 1).toNat ds) ++ List.take ((k + 1).toNat - k.toNat) (List.drop k.toNat ds) ++ List.drop (j + 1).toNat ds)) (fun d => [.rf s2, .sh (.tuple ds), .sh (.int k), .sh (.int j), (Sl.sh (.list [.tuple (List.take k.toNat ds ++ List.drop (k + 1).toNat ds), .tuple (ds ++ List.take 1 ds), .tuple ds.reverse, .tuple (List.drop k.toNat ds ++ List.take k.toNat ds), .list ds, .tuple (List.take k.toNat ds), .tuple [], .tuple (ds ++ [.int 0])])), .no, .sh d]) rfl rfl (fun _ _ => rfl) (fun _ _ => rfl)]
          rotate_left
          · intro d hd
            simp (disch := first | assumption | (simp only [List.length_append, List.length_cons, List.length_nil, List.length_take, List.length_drop, List.length_reverse, List.length_map, List.length_dropLast, List.length_tail, Int.toNat_natCast, sizeLine_eq]; omega) | omega) [toRf, ↓e1, ↓e2, ↓e3, cut_to, cut_from, cut_at, h1, g1, k1, j1, hk, hj]
          simp (disch := first | assumption | (simp only [List.length_append, List.length_cons, List.length_nil, List.length_take, List.length_drop, List.length_reverse, List.length_map, List.length_dropLast, List.length_tail, Int.toNat_natCast, sizeLine_eq]; omega) | omega) [-Rs.ok.injEq, ↓e1, ↓e2, ↓e3]
          refine fin_pick l1 (by simpa using l2) hs3 ?_
          exact (List.forall_mem_cons.mpr ⟨(A (bl_app bl_take bl_drop) (by omega)).1, (List.forall_mem_cons.mpr ⟨(A (bl_app bl_self bl_take) (by omega)).1, (List.forall_mem_cons.mpr ⟨(A (bl_rev) (by omega)).1, (List.forall_mem_cons.mpr ⟨(A (bl_app bl_drop bl_take) (by omega)).1, (List.forall_mem_cons.mpr ⟨(A (bl_self) (by omega)).2, (List.forall_mem_cons.mpr ⟨(A (bl_take) (by omega)).1, (List.forall_mem_cons.mpr ⟨(A (bl_nil) (by omega)).1, (List.forall_mem_cons.mpr ⟨(A (bl_app bl_self bl_zero) (by omega)).1, (List.forall_mem_cons.mpr ⟨(A (bl_app bl_take (bl_app bl_td (bl_app bl_td (bl_app bl_td bl_drop)))) (by omega)).1, (List.forall_mem_cons.mpr ⟨(A (bl_app bl_take (bl_app bl_td (bl_app bl_td (bl_app bl_td bl_drop)))) (by omega)).1, (List.forall_mem_cons.mpr ⟨(A (bl_app bl_take (bl_app bl_td (bl_app bl_td (bl_app bl_td bl_drop)))) (by omega)).1, (fun _ h => absurd h List.not_mem_nil)⟩)⟩)⟩)⟩)⟩)⟩)⟩)⟩)⟩)⟩)⟩)
        · obtain ⟨l, s3, e3, l1, l2, hs3⟩ := next_k hs2 (m := 8) (by decide) (by decide)
          have hkj' : ¬ k < j ∨ ¬ j < ds.length := by omega
          rcases hkj' with hk | hj
          · simp (disch := first | assumption | (simp only [List.length_append, List.length_cons, List.length_nil, List.length_take, List.length_drop, List.length_reverse, List.length_map, List.length_dropLast, List.length_tail, Int.toNat_natCast, sizeLine_eq]; omega) | omega) [-Rs.ok.injEq, ↓e1, ↓e2, ↓e3, cut_to, cut_from, cut_at, h1, g1, k1, j1, hk]
            refine fin_pick l1 (by simpa using l2) hs3 ?_
            exact (List.forall_mem_cons.mpr ⟨(A (bl_app bl_take bl_drop) (by omega)).1, (List.forall_mem_cons.mpr ⟨(A (bl_app bl_self bl_take) (by omega)).1, (List.forall_mem_cons.mpr ⟨(A (bl_rev) (by omega)).1, (List.forall_mem_cons.mpr ⟨(A (bl_app bl_drop bl_take) (by omega)).1, (List.forall_mem_cons.mpr ⟨(A (bl_self) (by omega)).2, (List.forall_mem_cons.mpr ⟨(A (bl_take) (by omega)).1, (List.forall_mem_cons.mpr ⟨(A (bl_nil) (by omega)).1, (List.forall_mem_cons.mpr ⟨(A (bl_app bl_self bl_zero) (by omega)).1, (fun _ h => absurd h List.not_mem_nil)⟩)⟩)⟩)⟩)⟩)⟩)⟩)⟩)
          · by_cases hk : k < j
            · simp (disch := first | assumption | (simp only [List.length_append, List.length_cons, List.length_nil, List.length_take, List.length_drop, List.length_reverse, List.length_map, List.length_dropLast, List.length_tail, Int.toNat_natCast, sizeLine_eq]; omega) | omega) [-Rs.ok.injEq, ↓e1, ↓e2, ↓e3, cut_to, cut_from, cut_at, h1, g1, k1, j1, hj, hk]
              refine fin_pick l1 (by simpa using l2) hs3 ?_
              exact (List.forall_mem_cons.mpr ⟨(A (bl_app bl_take bl_drop) (by omega)).1, (List.forall_mem_cons.mpr ⟨(A (bl_app bl_self bl_take) (by omega)).1, (List.forall_mem_cons.mpr ⟨(A (bl_rev) (by omega)).1, (List.forall_mem_cons.mpr ⟨(A (bl_app bl_drop bl_take) (by omega)).1, (List.forall_mem_cons.mpr ⟨(A (bl_self) (by omega)).2, (List.forall_mem_cons.mpr ⟨(A (bl_take) (by omega)).1, (List.forall_mem_cons.mpr ⟨(A (bl_nil) (by omega)).1, (List.forall_mem_cons.mpr ⟨(A (bl_app bl_self bl_zero) (by omega)).1, (fun _ h => absurd h List.not_mem_nil)⟩)⟩)⟩)⟩)⟩)⟩)⟩)⟩)
            · simp (disch := first | assumption | (simp only [List.length_append, List.length_cons, List.length_nil, List.length_take, List.length_drop, List.length_reverse, List.length_map, List.length_dropLast, List.length_tail, Int.toNat_natCast, sizeLine_eq]; omega) | omega) [-Rs.ok.injEq, ↓e1, ↓e2, ↓e3, cut_to, cut_from, cut_at, h1, g1, k1, j1, hk]
              refine fin_pick l1 (by simpa using l2) hs3 ?_
              exact (List.forall_mem_cons.mpr ⟨(A (bl_app bl_take bl_drop) (by omega)).1, (List.forall_mem_cons.mpr ⟨(A (bl_app bl_self bl_take) (by omega)).1, (List.forall_mem_cons.mpr ⟨(A (bl_rev) (by omega)).1, (List.forall_mem_cons.mpr ⟨(A (bl_app bl_drop bl_take) (by omega)).1, (List.forall_mem_cons.mpr ⟨(A (bl_self) (by omega)).2, (List.forall_mem_cons.mpr ⟨(A (bl_take) (by omega)).1, (List.forall_mem_cons.mpr ⟨(A (bl_nil) (by omega)).1, (List.forall_mem_cons.mpr ⟨(A (bl_app bl_self bl_zero) (by omega)).1, (fun _ h => absurd h List.not_mem_nil)⟩)⟩)⟩)⟩)⟩)⟩)⟩)⟩)
      by_cases h0 : ds = []
      · subst h0
        obtain ⟨v', st', e, h⟩ := core hs
        refine ⟨v', st', fun K => ?_, h⟩
        rw [← e K]
        simp [nonB, ok0, PyData.eqv, PyData.eqvAll]
      · have hne : PyData.eqv (.tuple ds) (.tuple []) = false := by
          cases ds with
          | nil => exact absurd rfl h0
          | cons _ _ => simp [PyData.eqv, PyData.eqvAll]
        obtain ⟨q, s0, e0, q1, q2, hs0⟩ := next_k hs (m := 4) (by decide) (by decide)
        by_cases hq : 0 < q
        · have hlen : 0 < ds.length := by cases ds with
            | nil => exact absurd rfl h0
            | cons _ _ => simp
          obtain ⟨k, s1, e1, h1, h2, hs1⟩ := next_k hs0 (m := (ds.length : Int)) (by omega) (by omega)
          obtain ⟨d, dm, de⟩ := atI_mem h1 h2
          obtain ⟨v1, s2, e2, hs2, tv1⟩ := ih hs1 (dt d dm) (by omega) (by omega) h1000
          have k1 : 0 ≤ k + 1 := by omega
          refine ⟨.tuple (ds.take k.toNat ++ [v1] ++ ds.drop (k + 1).toNat), s2, fun K => ?_, hs2, ?_⟩
          · have z1 : min k.toNat ds.length + 1 ≤ sizeLine := by rw [sizeLine_eq]; omega
            have z2 : min k.toNat ds.length + 1 + (ds.length - (k + 1).toNat) ≤ sizeLine := by rw [sizeLine_eq]; omega
            simp [nonB, ok0, hne, hq, okv, ↓e0, ↓e1, ↓e2, cut_to, cut_from, h1, k1, ↓zat_of de, z1, z2]
          · have up : ∀ d ∈ ds, Tm (8 * s + 8) (m + 1) d := fun d hd => (dt d hd).mono (by omega) (by omega)
            refine ⟨by rw [List.length_append, List.length_append, List.length_take, List.length_drop, List.length_singleton]; omega, fun e he => ?_⟩
            rcases List.mem_append.mp he with he | he
            · rcases List.mem_append.mp he with he | he
              · exact up e (List.mem_of_mem_take he)
              · rw [List.mem_singleton.mp he]; exact tv1
            · exact up e (List.mem_of_mem_drop he)
        · obtain ⟨v', st', e, h⟩ := core hs0
          have hq0 : q = 0 := by omega
          subst hq0
          refine ⟨v', st', fun K => ?_, h⟩
          rw [← e K]
          simp [nonB, ok0, hne, okv, ↓e0]
theorem changed_ok (N : Nat) : ∀ {n s : Nat} {v st : D}, St st → Tm s n v → n ≤ N → n ≤ 60 → s ≤ 1000 → ∃ v' st', (∀ K, okR1 (d__law_changed (N + 1) [st, v]) K = K (.sh v') st') ∧ St st' ∧ Tm (8 * s + 8) (n + 1) v' := by
  induction N with
  | zero => exact fun {n s v st} hs tv hn h60 h => changed_step _ 0 (fun _ _ z => absurd z (Nat.not_lt_zero _)) hs tv hn h60 h
  | succ N ih => exact fun {n s v st} hs tv hn h60 h => changed_step _ (N + 1) (fun {n s v st} h1 h2 h3 h4 h5 => ih h1 h2 (Nat.le_of_lt_succ h3) h4 h5) hs tv hn h60 h
end Z

namespace Z
open PySem L2

theorem cmpOk_ints {ds : List D} (h : ∀ d ∈ ds, ∃ i, d = .int i) : cmpOk (.list ds) = true := by
  have h1 : ∀ d ∈ ds, d.canLay0 = true ∧ d.depth ≤ 0 := fun d hd => by
    obtain ⟨i, rfl⟩ := h d hd
    simp [PyData.canLay0, PyData.depth]
  unfold cmpOk SeqAt.shaped
  simp only [PyData.canLay0, PyData.depth, Bool.and_eq_true, decide_eq_true_eq]
  have h2 : PyData.depthAll ds ≤ 0 := depthAll_le.mpr fun d hd => (h1 d hd).2
  exact ⟨canLayAll_iff.mpr fun d hd => (h1 d hd).1, decide_eq_true (by omega)⟩
/-- whole numbers, at most n of them, under 2 ^ s -/
def Ints (s n : Nat) (ds : List D) : Prop := ds.length ≤ n ∧ ∀ d ∈ ds, ∃ i : Int, d = .int i ∧ i.natAbs < 2 ^ s
theorem ints_step (r : Fd) (N : Nat) (ih : ∀ {n s : Nat} {v : D}, Tm s n v → n < N → s ^ n ≤ 2 ^ 20 → 0 < s → ∃ zs, (r [v] = .ok (.ow (.list zs)) []) ∧ Ints s (s ^ n) zs)
    {n s : Nat} {v : D} (tv : Tm s n v) (hn : n ≤ N) (hsz : s ^ n ≤ 2 ^ 20) (hs0 : 0 < s) : ∃ zs, fnD 4 [] (b__law_ints r) [v] = .ok (.ow (.list zs)) [] ∧ Ints s (s ^ n) zs := by
  have hpos : 0 < s ^ n := Nat.pow_pos hs0
  unfold b__law_ints
  cases v with
  | bool b => exact ⟨[], by simp, Nat.zero_le _, fun _ h => absurd h List.not_mem_nil⟩
  | none => exact ⟨[], by simp, Nat.zero_le _, fun _ h => absurd h List.not_mem_nil⟩
  | str _ => exact ⟨[], by simp, Nat.zero_le _, fun _ h => absurd h List.not_mem_nil⟩
  | list _ => exact ⟨[], by simp, Nat.zero_le _, fun _ h => absurd h List.not_mem_nil⟩
  | dict _ => exact (tm_dict tv).elim
  | int i => exact ⟨[.int i], by simp, hpos, fun d h => ⟨i, List.mem_singleton.mp h, tm_int.mp tv⟩⟩
  | tuple ds =>
    obtain ⟨m, rfl, dl, dt⟩ := tm_tuple' tv
    have hm : 0 < s ^ m := Nat.pow_pos hs0
    have hps : s ^ (m + 1) = s ^ m * s := Nat.pow_succ s m
    have hle : s ^ m ≤ s ^ (m + 1) := by rw [hps]; exact Nat.le_mul_of_pos_right _ hs0
    simp
    obtain ⟨b', e, hb'⟩ := forR_nx (f := bodyR (nameG 2) (asgT 1 (binF addS (varC 1) (fz (lcC [3] (seqI (fz (callC r (consC (varC 2) nilC)))) (nameG 3) (binB niB (borC 3) (borC 1)) (varC 3)))))) (g0 := [.sh (.tuple ds), .ow (.list []), .no, .no])
      (fun b : List D => [.sh (.tuple ds), .ow (.list b), .no, .no]) (fun i b => i ≤ ds.length ∧ Ints s (s ^ m * i) b) (ds := ds) (b := []) (fun i b d hd ⟨_, hl, hb⟩ => by
        have hi : i < ds.length := (List.getElem?_eq_some_iff.mp hd).1
        obtain ⟨zs, e, zl, zh⟩ := ih (dt d (List.mem_of_getElem? hd)) (by omega) (by omega) hs0
        have okb : cmpOk (.list b) = true := cmpOk_ints fun d h => let ⟨i, e, _⟩ := hb d h; ⟨i, e⟩
        have hmul : s ^ m * i + s ^ m ≤ s ^ (m + 1) := by
          rw [hps, ← Nat.mul_succ]; exact Nat.mul_le_mul_left _ (by omega)
        have fl : ∀ p : D → Bool, (zs.filter p).length ≤ s ^ m := fun p => Nat.le_trans (List.length_filter_le _ _) zl
        have sz : ∀ p : D → Bool, b.length + (zs.filter p).length ≤ sizeLine := fun p => by
          have := fl p
          rw [sizeLine_eq]; omega
        refine ⟨b ++ zs.filter (fun z => !b.any fun y => PyData.eqv y z), [.sh (.tuple ds), .ow (.list (b ++ zs.filter (fun z => !b.any fun y => PyData.eqv y z))), .sh d, .no], ?_, rfl, rfl, hi, ?_, ?_⟩
        · simp [↓okR_of e]
          rw [lcK_fil (g0 := [.sh (.tuple ds), .sh (.list b), .sh d, .no]) (fun z => !b.any fun y => PyData.eqv y z) (fun z => z) (fun z => [.sh (.tuple ds), .sh (.list b), .sh d, .sh z]) rfl rfl (fun _ _ => rfl) (fun _ _ => rfl)]
          · simp [sz]
          · intro z hz
            obtain ⟨x, rfl, _⟩ := zh z hz
            simp [toRf, okb, cmpOk_int]
        · rw [List.length_append, Nat.mul_succ]
          exact Nat.add_le_add hl (fl _)
        · intro e he
          rcases List.mem_append.mp he with he | he
          · exact hb e he
          · exact zh e (List.mem_filter.mp he).1) ⟨Nat.zero_le _, Nat.zero_le _, fun _ h => absurd h List.not_mem_nil⟩
    refine ⟨b', ?_, Nat.le_trans hb'.2.1 ?_, hb'.2.2⟩
    · simp [↓thenR_of e]
    · rw [hps]; exact Nat.mul_le_mul_left _ dl
theorem ints_ok (N : Nat) : ∀ {n s : Nat} {v : D}, Tm s n v → n ≤ N → s ^ n ≤ 2 ^ 20 → 0 < s → ∃ zs, d__law_ints (N + 1) [v] = .ok (.ow (.list zs)) [] ∧ Ints s (s ^ n) zs := by
  induction N with
  | zero => exact fun {n s v} tv hn h h0 => ints_step _ 0 (fun _ z => absurd z (Nat.not_lt_zero _)) tv hn h h0
  | succ N ih => exact fun {n s v} tv hn h h0 => ints_step _ (N + 1) (fun {n s v} h1 h2 h3 h4 => ih h1 (Nat.le_of_lt_succ h2) h3 h4) tv hn h h0
/-! ### _law_exchanged -/
theorem exchanged_step (r : Fd) (N : Nat) {s : Nat} {a b : Int} (ha : a.natAbs < 2 ^ s) (hb : b.natAbs < 2 ^ s) (ih : ∀ {n : Nat} {v : D}, Tm s n v → n < N → ∃ v', r [v, .int a, .int b] = .ok (.sh v') [] ∧ Tm s n v')
    {n : Nat} {v : D} (tv : Tm s n v) (hn : n ≤ N) (hs : s ≤ 2 ^ 20) : ∃ v', fnD 4 [] (b__law_exchanged r) [v, .int a, .int b] = .ok (.sh v') [] ∧ Tm s n v' := by
  classical
  unfold b__law_exchanged
  cases v with
  | bool b => exact ⟨_, by simp, tv⟩
  | none => exact ⟨_, by simp, tv⟩
  | str _ => exact ⟨_, by simp, tv⟩
  | list _ => exact ⟨_, by simp, tv⟩
  | dict _ => exact (tm_dict tv).elim
  | int i =>
    by_cases h1 : i = a
    · subst h1; exact ⟨.int b, by simp, tm_int.mpr hb⟩
    · by_cases h2 : i = b
      · subst h2; exact ⟨.int a, by simp [h1], tm_int.mpr ha⟩
      · exact ⟨.int i, by simp [h1, h2], tv⟩
  | tuple ds =>
    obtain ⟨m, rfl, dl, dt⟩ := tm_tuple' tv
    have hx : ∀ d ∈ ds, ∃ v', r [d, .int a, .int b] = .ok (.sh v') [] ∧ Tm s m v' := fun d hd => ih (dt d hd) (by omega)
    let h : D → D := fun d => if hd : d ∈ ds then (hx d hd).choose else d
    have hh : ∀ d ∈ ds, r [d, .int a, .int b] = .ok (.sh (h d)) [] ∧ Tm s m (h d) := fun d hd => by
      have : h d = (hx d hd).choose := dif_pos hd
      rw [this]; exact (hx d hd).choose_spec
    refine ⟨.tuple (ds.map h), ?_, by rw [List.length_map]; exact dl, fun e he => ?_⟩
    · simp
      rw [lcK_map (g0 := [.sh (.tuple ds), .sh (.int a), .sh (.int b), .no]) h (fun z => [.sh (.tuple ds), .sh (.int a), .sh (.int b), .sh z]) rfl rfl (fun _ _ => rfl) (fun _ _ => rfl)]
      · simp
      · intro z hz
        simp [toRf, ↓okR_of (hh z hz).1]
    · obtain ⟨d, hd, rfl⟩ := List.mem_map.mp he
      exact (hh d hd).2
theorem exchanged_ok (N : Nat) {s : Nat} {a b : Int} (ha : a.natAbs < 2 ^ s) (hb : b.natAbs < 2 ^ s) (hs : s ≤ 2 ^ 20) : ∀ {n : Nat} {v : D}, Tm s n v → n ≤ N → ∃ v', d__law_exchanged (N + 1) [v, .int a, .int b] = .ok (.sh v') [] ∧ Tm s n v' := by
  induction N with
  | zero => exact fun {n v} tv hn => exchanged_step _ 0 ha hb (fun _ z => absurd z (Nat.not_lt_zero _)) tv hn hs
  | succ N ih => exact fun {n v} tv hn => exchanged_step _ (N + 1) ha hb (fun {n v} h1 h2 => ih h1 (Nat.le_of_lt_succ h2)) tv hn hs
/-! ### _law_same -/
/-- _law_same of two truth values -/
theorem same_bool (N : Nat) (a b : Bool) : d__law_same (N + 1) [.bool a, .bool b] = .ok (.sh (.bool (a == b))) [] := by
  show fnD 3 [] (b__law_same (d__law_same N)) [.bool a, .bool b] = _
  unfold b__law_same
  simp [nonB, cmpOk_bool, PyData.eqv]
end Z

namespace Z
open PySem L2

/-! ### texts that are joined -/
theorem strsD_map : ∀ ys : List Str, strsD (ys.map .str) = some ys
  | [] => rfl
  | y :: ys => by simp [strsD, strsD_map ys]
theorem all_strs : ∀ {ds : List D}, (∀ d ∈ ds, instOf "str" d = true) → ∃ ys : List Str, ds = ys.map .str
  | [], _ => ⟨[], rfl⟩
  | d :: ds, h => by
    obtain ⟨ys, e⟩ := all_strs (ds := ds) fun e he => h e (List.mem_cons_of_mem _ he)
    have := h d List.mem_cons_self
    cases d with
    | str x => exact ⟨x :: ys, by rw [e]; rfl⟩
    | _ => simp at this
/-- texts, one behind another -/
def catS (ys : List Str) : Str := ys.foldr (· ++ ·) Str.empty
theorem emp_add (x : Str) : Str.empty ++ x = x := by
  show (⟨#[] ++ x.cps⟩ : Str) = x
  simp
theorem add_emp (x : Str) : x ++ Str.empty = x := by
  show (⟨x.cps ++ #[]⟩ : Str) = x
  simp
theorem join_cat (ys : List Str) : Txt.join "" ys = catS ys := by
  rw [TL.join_eq]
  induction ys with
  | nil => rfl
  | cons y ys ih =>
    cases ys with
    | nil => show y = y ++ Str.empty; rw [add_emp]
    | cons z r =>
      show y ++ "" ++ Str.join "" (z :: r) = y ++ catS (z :: r)
      rw [ih]
      have : ("" : Str) = Str.empty := rfl
      rw [this, add_emp]
theorem cat_len : ∀ ys : List Str, (catS ys).length = (ys.map (·.length)).sum
  | [] => rfl
  | y :: ys => by
    show (y ++ catS ys).length = _
    rw [len_add, cat_len ys]; simp
theorem cat_ok : ∀ {ys : List Str}, (∀ y ∈ ys, PyData.strOk y = true) → PyData.strOk (catS ys) = true
  | [], _ => by decide +kernel
  | y :: ys, h => strOk_add (h y List.mem_cons_self) (cat_ok fun z hz => h z (List.mem_cons_of_mem _ hz))
theorem sum_le {s : Nat} : ∀ {ys : List Str}, (∀ y ∈ ys, y.length ≤ s) → (ys.map (·.length)).sum ≤ ys.length * s
  | [], _ => by simp
  | y :: ys, h => by
    have h1 := h y List.mem_cons_self
    have h2 := sum_le (ys := ys) fun z hz => h z (List.mem_cons_of_mem _ hz)
    simp only [List.map_cons, List.sum_cons, List.length_cons, Nat.succ_mul]
    omega
section
variable {ds : List D} {ys : List Str} {g : Gam} {k : KD}
theorem joinL_of (h : strsD ds = some ys) (hz : (ys.map (·.length)).sum ≤ 16777216) : kopD (joinD (.str "") (.list ds)) g k = k (.str (catS ys)) g := by
  have l0 : ("" : Str).length = 0 := by decide +kernel
  show kopD ((strsD ds).bind _) g k = _
  rw [h]
  show kopD (if (ys.map (·.length)).sum + ys.length * ("" : Str).length ≤ 16777216 then _ else _) g k = _
  rw [if_pos (by rw [l0]; omega), join_cat]; rfl
theorem joinT_of (h : strsD ds = some ys) (hz : (ys.map (·.length)).sum ≤ 16777216) : kopD (joinD (.str "") (.tuple ds)) g k = k (.str (catS ys)) g := joinL_of h hz
end
theorem tm_signs {s : Nat} {z : Str} (h : PyData.strOk z = true) (hs : 0 < s) : ∀ d ∈ signs z, Tm s 0 d := fun d hd => by
  obtain ⟨c, hc, rfl⟩ := List.mem_map.mp hd
  refine tm_str.mpr ⟨?_, hs⟩
  rw [strOk_iff]
  intro c' hc'
  have : c' = c := by simpa using hc'
  rw [this]; exact strOk_iff.mp h c hc

/-- at most n items, each of them P -/
def Bp (P : D → Prop) (n : Nat) (L : List D) : Prop := L.length ≤ n ∧ ∀ d ∈ L, P d
section
variable {P : D → Prop} {ds L L' : List D} {n m k j : Nat} {d : D}
theorem bp_self (h : Bp P n ds) : Bp P n ds := h
theorem bp_take (h : Bp P n ds) : Bp P n (ds.take k) := ⟨by rw [List.length_take]; have := h.1; omega, fun _ q => h.2 _ (List.mem_of_mem_take q)⟩
theorem bp_drop (h : Bp P n ds) : Bp P n (ds.drop k) := ⟨by rw [List.length_drop]; have := h.1; omega, fun _ q => h.2 _ (List.mem_of_mem_drop q)⟩
theorem bp_rev (h : Bp P n ds) : Bp P n ds.reverse := ⟨by rw [List.length_reverse]; exact h.1, fun _ q => h.2 _ (List.mem_reverse.mp q)⟩
theorem bp_nil : Bp P 0 [] := ⟨Nat.le_refl _, fun _ h => absurd h List.not_mem_nil⟩
theorem bp_cons (h : P d) (b : Bp P n L) : Bp P (n + 1) (d :: L) := ⟨by rw [List.length_cons]; have := b.1; omega, fun e q => (List.mem_cons.mp q).elim (fun z => by rw [z]; exact h) (b.2 e)⟩
theorem bp_app (a : Bp P n L) (b : Bp P m L') : Bp P (n + m) (L ++ L') := ⟨by rw [List.length_append]; have := a.1; have := b.1; omega, fun d h => (List.mem_append.mp h).elim (a.2 d) (b.2 d)⟩
end
theorem bp_tup {s n m : Nat} {L : List D} (h : Bp (Tm s n) m L) (hm : m ≤ s) : Tm s (n + 1) (.tuple L) := ⟨Nat.le_trans h.1 hm, h.2⟩
theorem bp_lst {s n m : Nat} {L : List D} (h : Bp (Tm s n) m L) (hm : m ≤ s) : Tm s (n + 1) (.list L) := ⟨Nat.le_trans h.1 hm, h.2⟩
theorem signs_length (z : Str) : (signs z).length = z.length := signs_len z

/-- is it a tuple -/
def IsTp (d : D) : Prop := ∃ L, d = .tuple L
theorem isTp {L : List D} : IsTp (.tuple L) := ⟨L, rfl⟩

/-! ### _law_cut -/
theorem cut_step (r : Fd) (N : Nat) {s : Nat} (hs0 : 0 < s) (hss : s * s ≤ 2 ^ 20) (ih : ∀ {n : Nat} {v st : D}, St st → Tm s n v → n < N → n ≤ 60 → ∃ v' st', (∀ K, okR1 (r [st, v]) K = K (.sh v') st') ∧ St st' ∧ Tm (s * s + 8 * s + 8) n v' ∧ (IsTp v → IsTp v'))
    {n : Nat} {v st : D} (hs : St st) (tv : Tm s n v) (hn : n ≤ N) (h60 : n ≤ 60) : ∃ v' st', (∀ K, okR1 (fnD 6 [0] (b__law_cut r) [st, v]) K = K (.sh v') st') ∧ St st' ∧ Tm (s * s + 8 * s + 8) n v' ∧ (IsTp v → IsTp v') := by
  have hs2 : s ≤ s * s := Nat.le_mul_of_pos_right _ hs0
  have up : ∀ {n : Nat} {d : D}, Tm s n d → Tm (s * s + 8 * s + 8) n d := fun h => h.mono (by omega) (Nat.le_refl _)
  unfold b__law_cut
  cases v with
  | bool b => exact ⟨_, st, fun K => by simp, hs, up tv, fun h => h⟩
  | none => exact ⟨_, st, fun K => by simp, hs, up tv, fun h => h⟩
  | str _ => exact ⟨_, st, fun K => by simp, hs, up tv, fun h => h⟩
  | list _ => exact ⟨_, st, fun K => by simp, hs, up tv, fun h => h⟩
  | dict _ => exact (tm_dict tv).elim
  | int i => exact ⟨_, st, fun K => by simp, hs, up tv, fun h => h⟩
  | tuple ds =>
    obtain ⟨m, rfl, dl, dt⟩ := tm_tuple' tv
    have okv : cmpOk (.tuple ds) = true := tv.ok (by omega)
    have ok0 : cmpOk (.tuple []) = true := by decide +kernel
    have okl0 : cmpOk (.list []) = true := by decide +kernel
    by_cases h0 : ds = []
    · subst h0
      exact ⟨_, st, fun K => by simp [ok0, PyData.eqv, PyData.eqvAll], hs, up tv, fun h => h⟩
    have hlen : 0 < ds.length := by cases ds with
      | nil => exact absurd rfl h0
      | cons _ _ => simp
    have hne : PyData.eqv (.tuple ds) (.tuple []) = false := by
      cases ds with
      | nil => exact absurd rfl h0
      | cons _ _ => simp [PyData.eqv, PyData.eqvAll]
    have okf : cmpOk (.list (ds.filter fun d => !instOf "str" d)) = true := by
      have : Tm s (m + 1) (.list (ds.filter fun d => !instOf "str" d)) := ⟨Nat.le_trans (List.length_filter_le _ _) dl, fun d hd => dt d (List.mem_filter.mp hd).1⟩
      exact this.ok (by omega)
    obtain ⟨k, s1, e1, h1, h2, hs1⟩ := next_k hs (m := (ds.length : Int)) (by omega) (by omega)
    obtain ⟨d, dm, de⟩ := atI_mem h1 h2
    have k1 : 0 ≤ k + 1 := by omega
    have k2 : 0 ≤ k + 2 := by omega
    have comp : ∀ K, lcK [5] (turnC (nameG 5) (notB (truB (isiC ["str"] (borC 5)))) (varC 5)) ds [.rf st, .sh (.tuple ds), .no, .no, .no, .no] K = K (.ow (.list (ds.filter fun d => !instOf "str" d))) [.rf st, .sh (.tuple ds), .no, .no, .no, .no] := fun K => by
      rw [lcK_fil (g0 := [.rf st, .sh (.tuple ds), .no, .no, .no, .no]) (fun d => !instOf "str" d) (fun z => z) (fun z => [.rf st, .sh (.tuple ds), .no, .no, .no, .sh z]) rfl rfl (fun _ _ => rfl) (fun _ _ => rfl)]
      · simp
      · intro z hz
        simp [toRf]
    by_cases hf : ds.filter (fun d => !instOf "str" d) = []
    · obtain ⟨ys, rfl⟩ := all_strs (ds := ds) fun d hd => by
        cases q : instOf "str" d with
        | true => rfl
        | false =>
          have : d ∈ ds.filter (fun d => !instOf "str" d) := List.mem_filter.mpr ⟨hd, by simp [q]⟩
          rw [hf] at this; exact absurd this List.not_mem_nil
      have dl' : ys.length ≤ s := by simpa using dl
      have h2' : k < ys.length := by simpa using h2
      have dy : ∀ y ∈ ys, PyData.strOk y = true ∧ y.length ≤ s := fun y hy => tm_str.mp (dt (.str y) (List.mem_map.mpr ⟨y, hy, rfl⟩))
      obtain ⟨y, hy, rfl⟩ := List.mem_map.mp dm
      obtain ⟨yo, yl⟩ := dy y hy
      obtain ⟨j, s2, e2, g1, g2, hs2'⟩ := next_k hs1 (m := (y.length : Int) + 1) (by omega) (by omega)
      obtain ⟨l, s3, e3, l1, l2, hs3⟩ := next_k hs2' (m := 6) (by decide) (by decide)
      have yl2 : y.length ≤ sizeLine := by rw [sizeLine_eq]; omega
      have sub : ∀ zs : List Str, (∀ z ∈ zs, z ∈ ys) → zs.length ≤ ys.length → (zs.map (·.length)).sum ≤ s * s ∧ PyData.strOk (catS zs) = true := fun zs hz hl =>
        ⟨Nat.le_trans (sum_le fun z q => (dy z (hz z q)).2) (Nat.mul_le_mul_right _ (by omega)), cat_ok fun z q => (dy z (hz z q)).1⟩
      have c1 := sub ((ys.drop k.toNat).take ((k + 2).toNat - k.toNat)) (fun z q => List.mem_of_mem_drop (List.mem_of_mem_take q)) (by rw [List.length_take, List.length_drop]; omega)
      have c2 := sub ys (fun z q => q) (Nat.le_refl _)
      have j1 : strsD (((ys.map PyData.str).drop k.toNat).take ((k + 2).toNat - k.toNat)) = some ((ys.drop k.toNat).take ((k + 2).toNat - k.toNat)) := by
        rw [← List.map_drop, ← List.map_take, strsD_map]
      have w1 : min k.toNat ys.length + 2 ≤ sizeLine := by rw [sizeLine_eq]; omega
      have w2 : min k.toNat ys.length + 2 + (ys.length - (k + 1).toNat) ≤ sizeLine := by rw [sizeLine_eq]; omega
      have w3 : min k.toNat ys.length + 1 ≤ sizeLine := by rw [sizeLine_eq]; omega
      have w4 : min k.toNat ys.length + 1 + (ys.length - (k + 2).toNat) ≤ sizeLine := by rw [sizeLine_eq]; omega
      have w5 : min k.toNat ys.length + 1 + (ys.length - k.toNat) ≤ sizeLine := by rw [sizeLine_eq]; omega
      have w6 : min k.toNat ys.length + min ((k + 2).toNat - k.toNat) (ys.length - k.toNat) ≤ sizeLine := by rw [sizeLine_eq]; omega
      have w7 : min k.toNat ys.length + min ((k + 2).toNat - k.toNat) (ys.length - k.toNat) + (ys.length - (k + 2).toNat) ≤ sizeLine := by rw [sizeLine_eq]; omega
      have w8 : 6 ≤ sizeLine := by rw [sizeLine_eq]; omega
      have w9 : (catS ys).length ≤ sizeLine := by rw [cat_len, sizeLine_eq]; have := c2.1; omega
      have e4 : PyData.eqv (.list []) (.list []) = true := by decide +kernel
      rw [hf] at comp
      simp [ok0, hne, okv, ↓comp, okl0, e4, ↓e1, ↓e2, ↓e3, cut_to, cut_from, cut_at, h1, g1, k1, k2, ↓zat_of de, yl2, ↓joinT_of j1 (by have := c1.1; omega), ↓joinT_of (strsD_map ys) (by have := c2.1; omega), w1, w2, w3, w4, w5, w6, w7, w8, w9]
      have B : Bp (Tm (s * s + 8 * s + 8) m) s (ys.map PyData.str) := ⟨dl, fun d hd => up (dt d hd)⟩
      have ts : ∀ z : Str, PyData.strOk z = true → z.length ≤ s * s → Tm (s * s + 8 * s + 8) m (.str z) := fun z a b => tm_str.mpr ⟨a, by omega⟩
      have c3 : ∀ lo hi, Tm (s * s + 8 * s + 8) m (.str (cutS y lo hi)) := fun lo hi => ts _ (strOk_cut yo) (Nat.le_trans cutS_len (by omega))
      have c4 := ts _ c1.2 (by rw [cat_len]; exact c1.1)
      have c5 := ts _ c2.2 (by rw [cat_len]; exact c2.1)
      have c6 : Tm (s * s + 8 * s + 8) m (.str (Str.ofString "")) := tm_str.mpr ⟨by decide +kernel, by rw [len_of]; exact Nat.zero_le _⟩
      have c7 : Bp (Tm (s * s + 8 * s + 8) m) (s * s) (signs (catS ys)) := ⟨by rw [signs_len, cat_len]; exact c2.1, fun d hd => (tm_signs c2.2 (by omega) d hd).mono (Nat.le_refl _) (Nat.zero_le _)⟩
      refine fin_pickP (P := fun v => Tm (s * s + 8 * s + 8) (m + 1) v ∧ (IsTp (.tuple (ys.map PyData.str)) → IsTp v)) l1 (by simpa using l2) hs3 ?_
      exact List.forall_mem_cons.mpr ⟨⟨bp_tup (bp_app (bp_take B) (bp_cons (c3 _ _) (bp_cons (c3 _ _) (bp_drop B)))) (by omega), fun _ => isTp⟩, List.forall_mem_cons.mpr ⟨⟨bp_tup (bp_app (bp_take B) (bp_cons c4 (bp_drop B))) (by omega), fun _ => isTp⟩,
        List.forall_mem_cons.mpr ⟨⟨bp_tup (bp_cons c5 bp_nil) (by omega), fun _ => isTp⟩, List.forall_mem_cons.mpr ⟨⟨bp_tup c7 (by omega), fun _ => isTp⟩, List.forall_mem_cons.mpr ⟨⟨bp_tup (bp_app (bp_take B) (bp_cons c6 (bp_drop B))) (by omega), fun _ => isTp⟩,
        List.forall_mem_cons.mpr ⟨⟨bp_tup (bp_app (bp_take B) (bp_app (bp_rev (bp_take (bp_drop B))) (bp_drop B))) (by omega), fun _ => isTp⟩, fun _ h => absurd h List.not_mem_nil⟩⟩⟩⟩⟩⟩
    · have hne2 : PyData.eqv (.list (ds.filter fun d => !instOf "str" d)) (.list []) = false := by
        cases q : ds.filter (fun d => !instOf "str" d) with
        | nil => exact absurd q hf
        | cons _ _ => simp [PyData.eqv, PyData.eqvAll]
      obtain ⟨v1, s2, e2, hs2', tv1, _⟩ := ih hs1 (dt d dm) (by omega) (by omega)
      refine ⟨.tuple (ds.take k.toNat ++ [v1] ++ ds.drop (k + 1).toNat), s2, fun K => ?_, hs2', ?_, fun _ => isTp⟩
      · have z1 : min k.toNat ds.length + 1 ≤ sizeLine := by rw [sizeLine_eq]; omega
        have z2 : min k.toNat ds.length + 1 + (ds.length - (k + 1).toNat) ≤ sizeLine := by rw [sizeLine_eq]; omega
        simp [ok0, hne, okv, ↓comp, okf, okl0, hne2, ↓e1, ↓e2, cut_to, cut_from, h1, k1, ↓zat_of de, z1, z2]
      · refine ⟨by rw [List.length_append, List.length_append, List.length_take, List.length_drop, List.length_singleton]; omega, fun e he => ?_⟩
        rcases List.mem_append.mp he with he | he
        · rcases List.mem_append.mp he with he | he
          · exact up (dt e (List.mem_of_mem_take he))
          · rw [List.mem_singleton.mp he]; exact tv1
        · exact up (dt e (List.mem_of_mem_drop he))
theorem cut_ok (N : Nat) {s : Nat} (hs0 : 0 < s) (hss : s * s ≤ 2 ^ 20) : ∀ {n : Nat} {v st : D}, St st → Tm s n v → n ≤ N → n ≤ 60 → ∃ v' st', (∀ K, okR1 (d__law_cut (N + 1) [st, v]) K = K (.sh v') st') ∧ St st' ∧ Tm (s * s + 8 * s + 8) n v' ∧ (IsTp v → IsTp v') := by
  induction N with
  | zero => exact fun {n v st} hs tv hn h60 => cut_step _ 0 hs0 hss (fun _ _ z => absurd z (Nat.not_lt_zero _)) hs tv hn h60
  | succ N ih => exact fun {n v st} hs tv hn h60 => cut_step _ (N + 1) hs0 hss (fun {n v st} h1 h2 h3 h4 => ih h1 h2 (Nat.le_of_lt_succ h3) h4) hs tv hn h60
end Z

namespace Z
open PySem L2

/-! ### _law_turned_about, _law_odd -/
/-- what comes of a told tuple -/
def Ok1 (r : Rs) (P : D → Prop) : Prop := ∃ v' st', (∀ K, okR1 r K = K (.sh v') st') ∧ St st' ∧ P v'
theorem ok1_of {r : Rs} {P : D → Prop} {v' st' : D} (e : r = .ok (.sh v') [st']) (h : St st') (p : P v') : Ok1 r P := ⟨v', st', fun K => okR1_of e, h, p⟩
theorem two_of : ∀ {ds : List D}, ds.length = 2 → ∃ a b, ds = [a, b]
  | [a, b], _ => ⟨a, b, rfl⟩
  | [], h => by cases h
  | [_], h => by cases h
  | _ :: _ :: _ :: _, h => by simp at h
theorem le_256 {s : Nat} (h : s * s ≤ 2 ^ 16) : s ≤ 256 := Classical.byContradiction fun q => by
  have h1 : 257 ≤ s := by omega
  have := Nat.mul_le_mul h1 h1
  omega
def turned_end : DnT :=
  (seqT (parT 6 7 (consC (fz (callRC 0 d__law_next (consC (opsD lenD (consC (borC 1) nilC)) nilC))) (consC (fz (callRC 0 d__law_next (consC (opsD lenD (consC (borC 1) nilC)) nilC))) nilC)))
  (seqT (iffT (andB (binB eqB (opsD lenD (consC (borC 1) nilC)) (conC (.int 2))) (andB (truB (isiC ["tuple"] (binD ixD (borC 1) (conC (.int 1))))) (binB neB (binD ixD (borC 1) (conC (.int 1))) (tupC nilC))))
  (seqT (parT 6 7 (consC (fz (callRC 0 d__law_next (consC (opsD lenD (consC (binD ixD (borC 1) (conC (.int 1))) nilC)) nilC))) (consC (fz (callRC 0 d__law_next (consC (opsD lenD (consC (binD ixD (borC 1) (conC (.int 1))) nilC)) nilC))) nilC)))
  (retT (shF (tupC (consC (binD ixD (borC 1) (conC (.int 0))) (consC (fz (binF addS (fz (binF addS (fz (slcC (binD ixD (borC 1) (conC (.int 1))) noO (atO (borC 6)))) (fz (slcC (binD ixD (borC 1) (conC (.int 1))) (atO (borC 7)) (atO (fz (binF addS (borC 7) (conC (.int 1))))))))) (fz (slcC (binD ixD (borC 1) (conC (.int 1))) (atO (fz (binF addS (borC 6) (conC (.int 1))))) noO)))) nilC))))))
  skipT)
  (retT (ifC (andB (binB gtB (borC 6) (conC (.int 0))) (binB gtB (borC 7) (conC (.int 0)))) (binF addS (fz (binF addS (fz (slcC (borC 1) noO (atO (borC 6)))) (fz (slcC (borC 1) (atO (borC 7)) (atO (fz (binF addS (borC 7) (conC (.int 1))))))))) (fz (slcC (borC 1) (atO (fz (binF addS (borC 6) (conC (.int 1))))) noO))) (shF (varC 1))))))
theorem turned_eq : b__law_turned_about =
  (seqT (asgT 2 (callC (d__law_ints 40) (consC (varC 1) nilC)))
  (seqT (asgT 3 (callRC 0 d__law_next (consC (conC (.int 5)) nilC)))
  (seqT (iffT (andB (binB ltB (borC 3) (conC (.int 3))) (binB neB (borC 2) (fz (lstC nilC))))
  (seqT (asgT 4 (shF (binD ixD (varC 2) (fz (callRC 0 d__law_next (consC (opsD lenD (consC (borC 2) nilC)) nilC))))))
  (seqT (asgT 5 (ifC (binB eqB (borC 3) (conC (.int 0))) (binF addS (borC 4) (conC (.int 1))) (shF (binD ixD (varC 2) (fz (callRC 0 d__law_next (consC (opsD lenD (consC (borC 2) nilC)) nilC)))))))
  (retT (callC (d__law_exchanged 40) (consC (varC 1) (consC (varC 4) (consC (varC 5) nilC)))))))
  skipT)
  (seqT (iffT (binB eqB (borC 3) (conC (.int 3)))
  (retT (binF addS (fz (slcC (borC 1) noO (atO (conC (.int 1))))) (fz (ifC (binB gtB (opsD lenD (consC (borC 1) nilC)) (conC (.int 2))) (callRC 0 (d__law_cut 40) (consC (fz (slcC (borC 1) (atO (conC (.int 1))) noO)) nilC)) (shF (opsD tupX (consC (fz (lcC [8] (seqI (fz (slcC (borC 1) (atO (conC (.int 1))) noO))) (nameG 8) yesB (fz (callRC 0 (d__law_cut 40) (consC (varC 8) nilC))))) nilC)))))))
  skipT)
  turned_end)))) := rfl
theorem turned_ok {s n : Nat} (hs0 : 0 < s) (hss : s * s ≤ 2 ^ 16) (hsn : s ^ (n + 1) ≤ 2 ^ 20) (hn : n ≤ 30) {ds : List D} {st : D} (hs : St st) (h0 : 0 < ds.length) (tv : Tm s (n + 1) (.tuple ds)) :
    Ok1 (d__law_turned_about [st, .tuple ds]) (Tm (s * s + 9 * s + 9) (n + 1)) := by
  have hs2 : s ≤ s * s := Nat.le_mul_of_pos_right _ hs0
  have dl : ds.length ≤ s := tv.1
  have dt : ∀ d ∈ ds, Tm s n d := tv.2
  have up : ∀ {n : Nat} {d : D}, Tm s n d → Tm (s * s + 9 * s + 9) n d := fun h => h.mono (by omega) (Nat.le_refl _)
  have B : Bp (Tm (s * s + 9 * s + 9) n) s ds := ⟨dl, fun d hd => up (dt d hd)⟩
  obtain ⟨zs, ez, zl, zh⟩ := ints_ok 39 tv (by omega) hsn hs0
  have okz : cmpOk (.list zs) = true := cmpOk_ints fun d h => let ⟨i, e, _⟩ := zh d h; ⟨i, e⟩
  have okl0 : cmpOk (.list []) = true := by decide +kernel
  have ok0 : cmpOk (.tuple []) = true := by decide +kernel
  obtain ⟨pick, s1, e1, p1, p2, hs1⟩ := next_k hs (m := 5) (by decide) (by decide)
  unfold d__law_turned_about
  rw [turned_eq]
  by_cases hA : pick < 3 ∧ zs ≠ []
  · obtain ⟨hp, hz⟩ := hA
    have hzl : 0 < zs.length := List.length_pos_iff.mpr hz
    have hne : PyData.eqv (.list zs) (.list []) = false := by
      cases zs with
      | nil => exact absurd rfl hz
      | cons _ _ => simp [PyData.eqv, PyData.eqvAll]
    obtain ⟨k, s2, e2, k1, k2, hs2'⟩ := next_k hs1 (m := (zs.length : Int)) (by omega) (by omega)
    obtain ⟨d, dm, de⟩ := atI_mem k1 k2
    obtain ⟨one, rfl, ho⟩ := zh d dm
    have hpw : 2 ^ (s + 8) ≤ 2 ^ (s * s + 9 * s + 9) := Nat.pow_le_pow_right (by omega) (by omega)
    have h256 : 2 ^ (s + 8) = 256 * 2 ^ s := by rw [Nat.pow_add]; omega
    have hps : 0 < 2 ^ s := Nat.pow_pos (by omega)
    by_cases hp0 : pick = 0
    · subst hp0
      obtain ⟨v', e3, tv'⟩ := exchanged_ok 39 (s := s * s + 9 * s + 9) (a := one) (b := one + 1) (by omega) (by omega) (by omega) (up tv) (by omega)
      refine ok1_of (v' := v') (st' := s2) ?_ hs2' tv'
      simp [↓okR_of ez, ↓e1, okz, okl0, hne, ↓e2, ↓zat_of de, ↓okR_of e3]
    · obtain ⟨k', s3, e3, k1', k2', hs3⟩ := next_k hs2' (m := (zs.length : Int)) (by omega) (by omega)
      obtain ⟨d', dm', de'⟩ := atI_mem k1' k2'
      obtain ⟨two, rfl, ho'⟩ := zh d' dm'
      obtain ⟨v', e4, tv'⟩ := exchanged_ok 39 (s := s * s + 9 * s + 9) (a := one) (b := two) (by omega) (by omega) (by omega) (up tv) (by omega)
      refine ok1_of (v' := v') (st' := s3) ?_ hs3 tv'
      simp [↓okR_of ez, ↓e1, okz, okl0, hne, ↓e2, ↓zat_of de, ↓okR_of e4, hp, hp0, ↓e3, ↓zat_of de']
  have hA' : ¬ pick < 3 ∨ zs = [] := by
    by_cases hz : zs = []
    · exact .inr hz
    · exact .inl fun h => hA ⟨h, hz⟩
  have tail : ∀ {st0 : D} {sl : Sl}, St st0 → Ok1 (endR [0] (turned_end [.rf st0, .sh (.tuple ds), sl, .sh (.int pick), .no, .no, .no, .no, .no] fun g => .ret (.sh .none) g)) (Tm (s * s + 9 * s + 9) (n + 1)) := by
    intro st0 sl hst0
    obtain ⟨k, s2, e2, k1, k2, hs2'⟩ := next_k hst0 (m := (ds.length : Int)) (by omega) (by omega)
    obtain ⟨j, s3, e3, j1, j2, hs3⟩ := next_k hs2' (m := (ds.length : Int)) (by omega) (by omega)
    have kk : 0 ≤ k + 1 := by omega
    have jj : 0 ≤ j + 1 := by omega
    have last : ∀ {L : List D} {q : Nat} {k j : Int}, Bp (Tm (s * s + 9 * s + 9) q) s L → Bp (Tm (s * s + 9 * s + 9) q) (s + s + s) (cutL L none (some k) ++ cutL L (some j) (some (j + 1)) ++ cutL L (some (k + 1)) none) := fun b =>
      bp_app (bp_app ⟨Nat.le_trans cut_len b.1, fun d hd => b.2 d (cut_mem hd)⟩ ⟨Nat.le_trans cut_len b.1, fun d hd => b.2 d (cut_mem hd)⟩) ⟨Nat.le_trans cut_len b.1, fun d hd => b.2 d (cut_mem hd)⟩
    have sz : ∀ {L : List D} (a b c d e f : Option Int), L.length ≤ s → (cutL L a b).length + (cutL L c d).length ≤ sizeLine ∧ (cutL L a b ++ cutL L c d).length + (cutL L e f).length ≤ sizeLine := fun {L} a b c d e f h => by
      have h1 := cut_len (ds := L) (lo := a) (hi := b)
      have h2 := cut_len (ds := L) (lo := c) (hi := d)
      have h3 := cut_len (ds := L) (lo := e) (hi := f)
      rw [List.length_append, sizeLine_eq]; omega
    have endOf : ∀ {r : Rs} {s4 : D}, (r = .ok (.sh (if 0 < k ∧ 0 < j then .tuple (cutL ds none (some k) ++ cutL ds (some j) (some (j + 1)) ++ cutL ds (some (k + 1)) none) else .tuple ds)) [s4]) → St s4 → Ok1 r (Tm (s * s + 9 * s + 9) (n + 1)) := fun {r s4} e h => by
      refine ok1_of e h ?_
      by_cases hkj : 0 < k ∧ 0 < j
      · rw [if_pos hkj]; exact bp_tup (last B) (by omega)
      · rw [if_neg hkj]; exact up tv
    unfold turned_end
    by_cases h2l : ds.length = 2
    · obtain ⟨a, b, rfl⟩ := two_of h2l
      have ta : Tm s n a := dt a (by simp)
      have tb : Tm s n b := dt b (by simp)
      by_cases hb : ∃ L, b = .tuple L ∧ L ≠ []
      · obtain ⟨L, rfl, hL⟩ := hb
        obtain ⟨m, rfl, Ll, Lt⟩ := tm_tuple' tb
        have hL0 : 0 < L.length := List.length_pos_iff.mpr hL
        have okb : cmpOk (.tuple L) = true := tb.ok (by omega)
        have hne : PyData.eqv (.tuple L) (.tuple []) = false := by
          cases L with
          | nil => exact absurd rfl hL
          | cons _ _ => simp [PyData.eqv, PyData.eqvAll]
        obtain ⟨k', s4, e4, k1', k2', hs4⟩ := next_k hs3 (m := (L.length : Int)) (by omega) (by omega)
        obtain ⟨j', s5, e5, j1', j2', hs5⟩ := next_k hs4 (m := (L.length : Int)) (by omega) (by omega)
        have BL : Bp (Tm (s * s + 9 * s + 9) m) s L := ⟨Ll, fun d hd => up (Lt d hd)⟩
        refine ok1_of (v' := .tuple [a, .tuple (cutL L none (some k') ++ cutL L (some j') (some (j' + 1)) ++ cutL L (some (k' + 1)) none)]) (st' := s5) ?_ hs5 ?_
        · simp at e2 e3
          simp [↓e2, ↓e3, ↓e4, ↓e5, okb, ok0, hne, ↓o_addT (sz none (some k') (some j') (some (j' + 1)) none none Ll).1, ↓o_addT (sz none (some k') (some j') (some (j' + 1)) (some (k' + 1)) none Ll).2]
        · exact bp_tup (m := 2) (bp_cons (up ta) (bp_cons (bp_tup (last BL) (by omega)) bp_nil)) (by omega)
      · refine endOf (s4 := s3) ?_ hs3
        have okb : cmpOk b = true := tb.ok (by omega)
        simp at e2 e3
        have hbt : instOf "tuple" b = true → PyData.eqv b (.tuple []) = true := fun h => by
          cases b with
          | tuple L =>
            have : L = [] := Classical.byContradiction fun q => hb ⟨L, rfl, q⟩
            subst this; decide +kernel
          | _ => simp at h
        have z1 := (sz (L := [a, b]) none (some k) (some j) (some (j + 1)) none none (by simpa using dl)).1
        have z2 := (sz (L := [a, b]) none (some k) (some j) (some (j + 1)) (some (k + 1)) none (by simpa using dl)).2
        cases hi : instOf "tuple" b with
        | false =>
          by_cases hk : 0 < k
          · by_cases hj : 0 < j
            · simp [↓e2, ↓e3, hi, hk, hj, ↓o_addT z1, ↓o_addT z2]
            · simp [↓e2, ↓e3, hi, hk, hj]
          · simp [↓e2, ↓e3, hi, hk]
        | true =>
          have hbe := hbt hi
          by_cases hk : 0 < k
          · by_cases hj : 0 < j
            · simp [↓e2, ↓e3, hi, hbe, okb, ok0, hk, hj, ↓o_addT z1, ↓o_addT z2]
            · simp [↓e2, ↓e3, hi, hbe, okb, ok0, hk, hj]
          · simp [↓e2, ↓e3, hi, hbe, okb, ok0, hk]
    · have h2l' : ¬ (ds.length : Int) = 2 := by omega
      refine endOf (s4 := s3) ?_ hs3
      by_cases hk : 0 < k
      · by_cases hj : 0 < j
        · simp [↓e2, ↓e3, h2l, h2l', hk, hj, ↓o_addT (sz none (some k) (some j) (some (j + 1)) none none dl).1, ↓o_addT (sz none (some k) (some j) (some (j + 1)) (some (k + 1)) none dl).2]
        · simp [↓e2, ↓e3, h2l, h2l', hk, hj]
      · simp [↓e2, ↓e3, h2l, h2l', hk]
  by_cases hp3 : pick = 3
  · subst hp3
    have h3' : ¬ (3 : Int) < 3 := by omega
    have B1 : Bp (Tm (s * s + 9 * s + 9) n) 1 (cutL ds none (some 1)) := ⟨by rw [cut_to (by omega), List.length_take]; simp; omega, fun d hd => up (dt d (cut_mem hd))⟩
    have T1 : Tm s (n + 1) (.tuple (cutL ds (some 1) none)) := ⟨Nat.le_trans cut_len dl, fun d hd => dt d (cut_mem hd)⟩
    have l1 : (cutL ds none (some 1)).length ≤ 1 := B1.1
    by_cases hl : 2 < ds.length
    · have hl' : (2 : Int) < ds.length := by omega
      obtain ⟨v1, s2, e2, hs2', tv1, ht⟩ := cut_ok 39 hs0 (by omega) hs1 T1 (by omega) (by omega)
      obtain ⟨L, rfl⟩ := ht isTp
      have z1 : (cutL ds none (some 1)).length + L.length ≤ sizeLine := by
        have := tv1.1
        rw [sizeLine_eq]; omega
      refine ok1_of (v' := .tuple (cutL ds none (some 1) ++ L)) (st' := s2) ?_ hs2' ?_
      · simp [↓okR_of ez, ↓e1, okz, okl0, hl', hl, ↓e2, ↓o_addT z1]
      · exact bp_tup (m := 1 + (s * s + 8 * s + 8)) (bp_app B1 ⟨tv1.1, fun d hd => (tv1.2 d hd).mono (by omega) (Nat.le_refl _)⟩) (by omega)
    · have hl' : ¬ (2 : Int) < ds.length := by omega
      obtain ⟨out, s2, e2, hs2', ol, oq⟩ := lcK_st (f := turnC (nameG 8) yesB (fz (callRC 0 (d__law_cut 40) (consC (varC 8) nilC)))) (vs := [8]) (g := [.rf s1, .sh (.tuple ds), .ow (.list zs), .sh (.int 3), .no, .no, .no, .no, .no])
        (fun b => [.rf b, .sh (.tuple ds), .ow (.list zs), .sh (.int 3), .no, .no, .no, .no, .no]) (fun b => [.rf b, .sh (.tuple ds), .ow (.list zs), .sh (.int 3), .no, .no, .no, .no, .no]) St (Tm (s * s + 8 * s + 8) n) (ds := cutL ds (some 1) none) (b := s1) rfl rfl (fun _ => rfl) hs1
        (fun b d hd hb => by
          obtain ⟨v1, s2, e2, hs2', tv1, _⟩ := cut_ok 39 hs0 (by omega) hb (dt d (cut_mem hd)) (by omega) (by omega)
          refine ⟨v1, s2, [.rf s2, .sh (.tuple ds), .rf (.list zs), .sh (.int 3), .no, .no, .no, .no, .sh d], ?_, rfl, rfl, hs2', tv1⟩
          simp [toRf, ↓e2])
      have z1 : (cutL ds none (some 1)).length + out.length ≤ sizeLine := by
        have := cut_len (ds := ds) (lo := some 1) (hi := none)
        rw [sizeLine_eq]; omega
      refine ok1_of (v' := .tuple (cutL ds none (some 1) ++ out)) (st' := s2) ?_ hs2' ?_
      · simp [↓okR_of ez, ↓e1, okz, okl0, hl', hl, ↓e2, ↓o_addT z1]
      · exact bp_tup (m := 1 + s) (bp_app B1 ⟨by have := cut_len (ds := ds) (lo := some 1) (hi := none); omega, fun d hd => (oq d hd).mono (by omega) (Nat.le_refl _)⟩) (by omega)
  · have go : Ok1 (endR [0] (turned_end [.rf s1, .sh (.tuple ds), .ow (.list zs), .sh (.int pick), .no, .no, .no, .no, .no] fun g => .ret (.sh .none) g)) (Tm (s * s + 9 * s + 9) (n + 1)) := tail hs1
    obtain ⟨v', st', e, h⟩ := go
    refine ⟨v', st', fun K => ?_, h⟩
    rw [← e K]
    have okl0' := okl0
    rcases hA' with hp | hz
    · simp [turned_eq, ↓okR_of ez, ↓e1, hp, hp3]
    · subst hz
      have e4 : PyData.eqv (.list []) (.list []) = true := by decide +kernel
      by_cases hp : pick < 3
      · simp [turned_eq, ↓okR_of ez, ↓e1, hp, hp3, okl0, e4]
      · simp [turned_eq, ↓okR_of ez, ↓e1, hp, hp3, okl0, e4]
theorem odd_ok {s n : Nat} (hs0 : 0 < s) (hss : s * s ≤ 2 ^ 16) (hsn : s ^ (n + 1) ≤ 2 ^ 20) (hn : n ≤ 30) {ds : List D} {st : D} (hs : St st) (h0 : 0 < ds.length) (tv : Tm s (n + 1) (.tuple ds)) :
    Ok1 (d__law_odd [st, .tuple ds]) (fun v => v = .dict [] ∨ Tm (s * s + 9 * s + 16) (n + 3) v) := by
  have hs2 : s ≤ s * s := Nat.le_mul_of_pos_right _ hs0
  have dl : ds.length ≤ s := tv.1
  have dt : ∀ d ∈ ds, Tm s n d := tv.2
  have up : ∀ {n m : Nat} {d : D}, n ≤ m → Tm s n d → Tm (s * s + 9 * s + 16) m d := fun h q => q.mono (by omega) h
  have B : Bp (Tm (s * s + 9 * s + 16) (n + 2)) s ds := ⟨dl, fun d hd => up (by omega) (dt d hd)⟩
  obtain ⟨pick, s1, e1, p1, p2, hs1⟩ := next_k hs (m := 9) (by decide) (by decide)
  obtain ⟨a, am, ae⟩ := atI_mem (ds := ds) (k := 0) (by omega) (by omega)
  have ta := dt a am
  have c1 : (cutL ds none (some 1)).length ≤ s := Nat.le_trans cut_len dl
  have c2 : (cutL ds (some 1) none).length ≤ s := Nat.le_trans cut_len dl
  have z1 : ds.length + [PyData.int 0].length ≤ sizeLine := by rw [sizeLine_eq, List.length_singleton]; omega
  have z2 : ∀ d : D, [d].length + (cutL ds (some 1) none).length ≤ sizeLine := fun d => by rw [sizeLine_eq, List.length_singleton]; omega
  unfold d__law_odd b__law_odd
  by_cases h4 : 4 < pick
  · obtain ⟨v', s2, e2, hs2', tv'⟩ := turned_ok hs0 hss hsn hn hs1 h0 tv
    refine ⟨v', s2, fun K => ?_, hs2', .inr (tv'.mono (by omega) (by omega))⟩
    simp [↓e1, h4, ↓zat_of ae, ↓o_addT z1, ↓o_addT (z2 _), ↓e2]
  · by_cases hp0 : pick = 0
    · subst hp0
      obtain ⟨k, s2, e2, k1, k2, hs2'⟩ := next_k hs1 (m := 11) (by decide) (by decide)
      simp [-Rs.ok.injEq, ↓e1, ↓zat_of ae, ↓o_addT z1, ↓o_addT (z2 _), ↓e2]
      refine fin_pickP (P := fun v => v = .dict [] ∨ Tm (s * s + 9 * s + 16) (n + 3) v) k1 (by simpa using k2) hs2' ?_
      have I : ∀ x : String, x.length ≤ 9 → Tm (s * s + 9 * s + 16) (n + 3) (.str (Str.ofString x)) ∧ Tm (s * s + 9 * s + 16) (n + 2) (.str (Str.ofString x)) := fun x hx =>
        ⟨tm_str.mpr ⟨strOk_of x, by rw [len_of]; omega⟩, tm_str.mpr ⟨strOk_of x, by rw [len_of]; omega⟩⟩
      have J : ∀ {m : Nat} (x : Int), x.natAbs < 256 → Tm (s * s + 9 * s + 16) m (.int x) := fun x hx => tm_int.mpr (Nat.lt_of_lt_of_le hx (Nat.pow_le_pow_right (n := 2) (i := 8) (by omega) (by omega)))
      have BC : ∀ lo hi, Bp (Tm (s * s + 9 * s + 16) (n + 2)) s (cutL ds lo hi) := fun lo hi => ⟨Nat.le_trans cut_len dl, fun d hd => B.2 d (cut_mem hd)⟩
      exact List.forall_mem_cons.mpr ⟨.inr tm_none, List.forall_mem_cons.mpr ⟨.inr (I _ (by decide)).1, List.forall_mem_cons.mpr ⟨.inr (I _ (by decide)).1, List.forall_mem_cons.mpr ⟨.inl rfl, List.forall_mem_cons.mpr ⟨.inr (bp_tup bp_nil (by omega)),
        List.forall_mem_cons.mpr ⟨.inr (bp_tup (BC _ _) (by omega)), List.forall_mem_cons.mpr ⟨.inr (bp_lst B (by omega)), List.forall_mem_cons.mpr ⟨.inr (bp_tup (bp_app B (bp_cons (J 0 (by decide)) bp_nil)) (by omega)),
        List.forall_mem_cons.mpr ⟨.inr (bp_tup (bp_cons (bp_lst (n := n + 1) (bp_cons (up (by omega) ta) bp_nil) (by omega)) (BC _ _)) (by omega)), List.forall_mem_cons.mpr ⟨.inr (bp_tup (bp_cons (I _ (by decide)).2 (BC _ _)) (by omega)),
        List.forall_mem_cons.mpr ⟨.inr (J 7 (by decide)), fun _ h => absurd h List.not_mem_nil⟩⟩⟩⟩⟩⟩⟩⟩⟩⟩⟩
    · obtain ⟨v', s2, e2, hs2', tv'⟩ := changed_ok 39 hs1 tv (by omega) (by omega) (by have := le_256 hss; omega)
      refine ⟨v', s2, fun K => ?_, hs2', .inr (tv'.mono (by omega) (by omega))⟩
      simp [↓e1, h4, hp0, ↓zat_of ae, ↓o_addT z1, ↓o_addT (z2 _), ↓e2]
end Z

namespace Z
open PySem L2

/-! ### letters, words -/
abbrev Lt := Str × Int
def ltD (l : Lt) : D := .tuple [.str l.1, .int l.2]
def wD (w : List Lt) : D := .tuple (w.map ltD)
def Lok (l : Lt) : Prop := PyData.strOk l.1 = true ∧ (l.2 = 1 ∨ l.2 = -1)
def Wok (w : List Lt) : Prop := ∀ l ∈ w, Lok l
def inv (l : Lt) : Lt := (l.1, -l.2)
def stp (acc : List Lt) (l : Lt) : List Lt := if acc.getLast? = some (inv l) then acc.dropLast else acc ++ [l]
def red (w : List Lt) : List Lt := w.foldl stp []
theorem cmp_of {d : D} (h : d.canLay0 = true) (h2 : d.depth ≤ 64) : cmpOk d = true := by
  unfold cmpOk SeqAt.shaped
  rw [h, Bool.true_and]
  exact decide_eq_true h2
theorem lt_lay {l : Lt} (h : PyData.strOk l.1 = true) : (ltD l).canLay0 = true ∧ (ltD l).depth = 1 := by
  unfold ltD
  simp [PyData.canLay0, PyData.canLayAll0, PyData.depth, PyData.depthAll, h]
theorem ws_lay {w : List Lt} (h : Wok w) : PyData.canLayAll0 (w.map ltD) = true ∧ PyData.depthAll (w.map ltD) ≤ 1 :=
  ⟨canLayAll_iff.mpr fun d hd => by
    obtain ⟨l, hl, rfl⟩ := List.mem_map.mp hd
    exact (lt_lay (h l hl).1).1, depthAll_le.mpr fun d hd => by
    obtain ⟨l, hl, rfl⟩ := List.mem_map.mp hd
    rw [(lt_lay (h l hl).1).2]; exact Nat.le_refl _⟩
theorem w_ok {w : List Lt} (h : Wok w) : cmpOk (wD w) = true := by
  refine cmp_of ?_ ?_
  · unfold wD; simp only [PyData.canLay0]; exact (ws_lay h).1
  · unfold wD; simp only [PyData.depth]; have := (ws_lay h).2; omega
theorem wl_ok {w : List Lt} (h : Wok w) : cmpOk (.list (w.map ltD)) = true := by
  refine cmp_of ?_ ?_
  · simp only [PyData.canLay0]; exact (ws_lay h).1
  · simp only [PyData.depth]; have := (ws_lay h).2; omega
theorem lt_ok {l : Lt} (h : PyData.strOk l.1 = true) : cmpOk (ltD l) = true := cmp_of (lt_lay h).1 (by rw [(lt_lay h).2]; decide)
theorem eqv_lt (a b : Lt) : PyData.eqv (ltD a) (ltD b) = decide (a = b) := by
  unfold ltD
  simp [PyData.eqv, PyData.eqvAll]
  obtain ⟨x, i⟩ := a
  obtain ⟨y, j⟩ := b
  rw [Bool.eq_iff_iff]; simp
theorem eqv_ws : ∀ a b : List Lt, PyData.eqvAll (a.map ltD) (b.map ltD) = decide (a = b)
  | [], [] => by simp [PyData.eqvAll]
  | [], _ :: _ => by simp [PyData.eqvAll]
  | _ :: _, [] => by simp [PyData.eqvAll]
  | x :: a, y :: b => by simp [PyData.eqvAll, eqv_lt, eqv_ws a b]
theorem eqv_w (a b : List Lt) : PyData.eqv (wD a) (wD b) = decide (a = b) := by
  unfold wD; simp only [PyData.eqv]; exact eqv_ws a b
theorem stp_len (acc : List Lt) (l : Lt) : (stp acc l).length ≤ acc.length + 1 := by
  unfold stp
  split
  · rw [List.length_dropLast]; omega
  · rw [List.length_append, List.length_singleton]; omega
theorem snoc_cases {α : Type} (l : List α) : l = [] ∨ ∃ a b, l = a ++ [b] := by
  rcases List.eq_nil_or_concat l with h | ⟨a, b, h⟩
  · exact .inl h
  · exact .inr ⟨a, b, by simpa using h⟩
theorem neg_lok {l : Lt} (h : Lok l) : Lok (inv l) := ⟨h.1, by unfold inv; rcases h.2 with e | e <;> rw [e] <;> simp⟩
theorem stp_ok {acc : List Lt} {l : Lt} (h : Wok acc) (hl : Lok l) : Wok (stp acc l) := by
  unfold stp
  split
  · exact fun x hx => h x ((List.dropLast_sublist _).subset hx)
  · exact fun x hx => (List.mem_append.mp hx).elim (h x) fun q => by rw [List.mem_singleton.mp q]; exact hl
@[simp ↓] theorem x_lt0 {l : Lt} {g : Gam} {k : KD} : kopD (ixD (ltD l) (.int 0)) g k = k (.str l.1) g := rfl
@[simp ↓] theorem x_lt1 {l : Lt} {g : Gam} {k : KD} : kopD (ixD (ltD l) (.int 1)) g k = k (.int l.2) g := rfl
theorem shortened_ok {w : List Lt} (h : Wok w) (hl : w.length ≤ 2 ^ 20) : d_shortened [wD w] = .ok (.sh (wD (red w))) [] := by
  unfold d_shortened b_shortened
  have e := forR_map (f := bodyR (nameG 2) (iffT (andB (truB (borC 1)) (binB eqB (binD ixD (borC 1) (unD negD (conC (.int 1)))) (tupC (consC (binD ixD (borC 2) (conC (.int 0))) (consC (unD negD (binD ixD (borC 2) (conC (.int 1)))) nilC)))))
      (dropT (mutC 1 nilC popO)) (dropT (mutC 1 (consC (varC 2) nilC) appO)))) (g0 := [.sh (wD w), .ow (.list []), .no]) ltD (fun acc => [.sh (wD w), .ow (.list (acc.map ltD)), .no]) stp (fun n acc => acc.length + n ≤ 2 ^ 20 ∧ Wok acc) (xs := w) (b := [])
    (fun n acc l hm ⟨h1, h2⟩ => by
      have lo := h l hm
      refine ⟨⟨by have := stp_len acc l; omega, stp_ok h2 lo⟩, [.sh (wD w), .ow (.list ((stp acc l).map ltD)), .sh (ltD l)], ?_, rfl, rfl⟩
      rcases snoc_cases acc with rfl | ⟨a, b, rfl⟩
      · have z : (0 : Nat) < sizeLine := by rw [sizeLine_eq]; omega
        simp [z, stp]
      · have z : (a ++ [b]).length < sizeLine := by rw [sizeLine_eq]; omega
        have hb : Lok b := h2 b (by simp)
        have e1 : PyData.eqv (ltD b) (.tuple [.str l.1, .int (-l.2)]) = decide (b = inv l) := eqv_lt b (inv l)
        have o1 : cmpOk (.tuple [.str l.1, .int (-l.2)]) = true := lt_ok (l := inv l) lo.1
        rw [List.map_append, List.map_singleton]
        by_cases hbi : b = inv l
        · have : stp (a ++ [b]) l = a := by unfold stp; simp [hbi]
          rw [this]
          have e1' : PyData.eqv (ltD b) (.tuple [.str l.1, .int (-l.2)]) = true := by rw [e1]; exact decide_eq_true hbi
          simp [e1', o1, lt_ok hb.1]
        · have : stp (a ++ [b]) l = a ++ [b] ++ [l] := by unfold stp; simp [hbi]
          rw [this]
          have e1' : PyData.eqv (ltD b) (.tuple [.str l.1, .int (-l.2)]) = false := by rw [e1]; exact decide_eq_false hbi
          have z' : a.length + 1 < sizeLine := by simpa using z
          simp [e1', o1, lt_ok hb.1, z']) ⟨by simpa using hl, fun _ q => absurd q List.not_mem_nil⟩
  unfold wD at e ⊢
  simp only [List.map_nil] at e
  simp [↓thenR_of e]
  rfl
theorem lshort_ok {w : List Lt} (h : Wok w) (hl : w.length ≤ 2 ^ 20) : d__law_short [wD w] = .ok (.sh (wD (red w))) [] := by
  unfold d__law_short b__law_short
  have e := forR_map (f := bodyR (tupG 2 (consG (nameG 2) (consG (nameG 3) nilG))) (iffT (andB (binB neB (borC 1) (fz (lstC nilC))) (binB eqB (binD ixD (borC 1) (unD negD (conC (.int 1)))) (tupC (consC (varC 2) (consC (binD subD (conC (.int 0)) (borC 3)) nilC)))))
      (dropT (mutC 1 nilC popO)) (dropT (mutC 1 (consC (tupC (consC (varC 2) (consC (varC 3) nilC))) nilC) appO)))) (g0 := [.sh (wD w), .ow (.list []), .no, .no]) ltD (fun acc => [.sh (wD w), .ow (.list (acc.map ltD)), .no, .no]) stp (fun n acc => acc.length + n ≤ 2 ^ 20 ∧ Wok acc) (xs := w) (b := [])
    (fun n acc l hm ⟨h1, h2⟩ => by
      have lo := h l hm
      refine ⟨⟨by have := stp_len acc l; omega, stp_ok h2 lo⟩, [.sh (wD w), .ow (.list ((stp acc l).map ltD)), .sh (.str l.1), .sh (.int l.2)], ?_, rfl, rfl⟩
      have ok0 : cmpOk (.list []) = true := by decide +kernel
      have oka := wl_ok h2
      have el : ltD l = .tuple [.str l.1, .int l.2] := rfl
      rcases snoc_cases acc with rfl | ⟨a, b, rfl⟩
      · have z : (0 : Nat) < sizeLine := by rw [sizeLine_eq]; omega
        have e0 : PyData.eqv (.list []) (.list []) = true := by decide +kernel
        simp [z, stp, el, ok0, e0]
      · have z : (a ++ [b]).length < sizeLine := by rw [sizeLine_eq]; omega
        have hb : Lok b := h2 b (by simp)
        have e1 : PyData.eqv (ltD b) (.tuple [.str l.1, .int (-l.2)]) = decide (b = inv l) := eqv_lt b (inv l)
        have o1 : cmpOk (.tuple [.str l.1, .int (-l.2)]) = true := lt_ok (l := inv l) lo.1
        rw [List.map_append, List.map_singleton] at oka
        have en : PyData.eqv (.list (a.map ltD ++ [ltD b])) (.list []) = false := by
          cases a <;> simp [PyData.eqv, PyData.eqvAll]
        rw [List.map_append, List.map_singleton]
        have z' : a.length + 1 < sizeLine := by simpa using z
        by_cases hbi : b = inv l
        · have : stp (a ++ [b]) l = a := by unfold stp; simp [hbi]
          rw [this]
          have e1' : PyData.eqv (ltD b) (.tuple [.str l.1, .int (-l.2)]) = true := by rw [e1]; exact decide_eq_true hbi
          simp only [el]
          simp [e1', o1, lt_ok hb.1, oka, ok0, en]
        · have : stp (a ++ [b]) l = a ++ [b] ++ [l] := by unfold stp; simp [hbi]
          rw [this]
          have e1' : PyData.eqv (ltD b) (.tuple [.str l.1, .int (-l.2)]) = false := by rw [e1]; exact decide_eq_false hbi
          simp only [el]
          simp [e1', o1, lt_ok hb.1, oka, ok0, en, z']
          rfl) ⟨by simpa using hl, fun _ q => absurd q List.not_mem_nil⟩
  unfold wD at e ⊢
  simp only [List.map_nil] at e
  simp [↓thenR_of e]
  rfl
/-- a word, taken back -/
def bak (w : List Lt) : List Lt := w.reverse.map inv
theorem bak_ok {w : List Lt} (h : Wok w) : Wok (bak w) := fun l hl => by
  obtain ⟨x, hx, rfl⟩ := List.mem_map.mp hl
  exact neg_lok (h x (List.mem_reverse.mp hx))
theorem read_back_ok (w : List Lt) : d_read_back [wD w] = .ok (.sh (wD (bak w))) [] := by
  unfold d_read_back b_read_back wD
  simp
  rw [← List.map_reverse, lcK_enc (g0 := [.sh (.tuple (w.map ltD)), .no, .no]) ltD (fun l => ltD (inv l)) (fun l => [.sh (.tuple (w.map ltD)), .sh (.str l.1), .sh (.int l.2)]) rfl rfl (fun _ _ => rfl) (fun _ _ => rfl)]
  · simp [bak, Function.comp_def]
  · intro l _
    have el : ltD l = .tuple [.str l.1, .int l.2] := rfl
    simp [toRf, el]
    rfl
theorem lback_ok (w : List Lt) : d__law_back [wD w] = .ok (.sh (wD (bak w))) [] := by
  unfold d__law_back b__law_back wD
  simp
  rw [← List.map_reverse, lcK_enc (g0 := [.sh (.tuple (w.map ltD)), .no, .no]) ltD (fun l => ltD (inv l)) (fun l => [.sh (.tuple (w.map ltD)), .sh (.str l.1), .sh (.int l.2)]) rfl rfl (fun _ _ => rfl) (fun _ _ => rfl)]
  · simp [bak, Function.comp_def]
  · intro l _
    have el : ltD l = .tuple [.str l.1, .int l.2] := rfl
    simp [toRf, el]
    rfl
/-! ### is it a word -/
theorem whole_ok (v : D) : d_is_whole [v] = .ok (.sh (.bool (instOf "int" v && !instOf "bool" v))) [] := by
  unfold d_is_whole b_is_whole
  cases v <;> simp
theorem lwhole_ok (v : D) : d__law_is_whole [v] = .ok (.sh (.bool (instOf "int" v && !instOf "bool" v))) [] := by
  unfold d__law_is_whole b__law_is_whole
  cases v <;> simp
/-- a pair -/
def isP : D → Bool
  | .tuple ds => ds.length == 2
  | _ => false
/-- a letter -/
def isL : D → Bool
  | .tuple [.str _, .int e] => e == 1 || e == -1
  | _ => false
def isW : D → Bool
  | .tuple ds => ds.all isL
  | _ => false
theorem any_false (bs : List Bool) : ((bs.map PyData.bool).any fun z => PyData.eqv z (.bool false)) = bs.any (!·) := by
  induction bs with
  | nil => rfl
  | cons b bs ih => simp [PyData.eqv, ih]
theorem bools_ok (bs : List Bool) : cmpOk (.list (bs.map PyData.bool)) = true := by
  refine cmp_of ?_ ?_
  · simp only [PyData.canLay0]
    exact canLayAll_iff.mpr fun d hd => by obtain ⟨b, _, rfl⟩ := List.mem_map.mp hd; rfl
  · simp only [PyData.depth]
    have : PyData.depthAll (bs.map PyData.bool) ≤ 0 := depthAll_le.mpr fun d hd => by obtain ⟨b, _, rfl⟩ := List.mem_map.mp hd; simp [PyData.depth]
    omega
theorem isL_P {d : D} (h : isL d = true) : isP d = true := by
  unfold isL at h
  split at h
  · rfl
  · cases h
theorem bmap {p : D → Bool} {ds : List D} : ds.map (fun d => PyData.bool (p d)) = (ds.map p).map .bool := by simp
def fstD : D → D
  | .tuple (a :: _) => a
  | d => d
def sndD : D → D
  | .tuple (_ :: b :: _) => b
  | d => d
theorem is_word_ok {s n : Nat} {v : D} (tv : Tm s n v) (hn : n ≤ 40) : d_is_word [v] = .ok (.sh (.bool (isW v))) [] := by
  unfold d_is_word b_is_word
  cases v with
  | tuple ds =>
    obtain ⟨m, rfl, dl, dt⟩ := tm_tuple' tv
    simp
    have okb : cmpOk (.bool false) = true := cmpOk_bool
    rw [lcK_map (g0 := [.sh (.tuple ds), .no, .no, .no]) (fun d => .bool (isP d)) (fun d => [.sh (.tuple ds), .no, .no, .sh d]) rfl rfl (fun _ _ => rfl) (fun _ _ => rfl)]
    · rw [bmap]
      have e1 := any_false (ds.map isP)
      have e2 := bools_ok (ds.map isP)
      by_cases hp : ds.all isP = true
      · have e3 : ((ds.map isP).map PyData.bool).any (fun z => PyData.eqv z (.bool false)) = false := by
          rw [e1, List.any_map, List.any_eq_false]
          intro d hd
          have := List.all_eq_true.mp hp d hd
          simp [this]
        have q1 : ∀ g kB, kopB (inB (.bool false) (.list ((ds.map isP).map .bool))) g kB = kB false g := fun g kB => by rw [c_inL okb e2, e3]
        simp [-List.map_map, ↓q1]
        have pr : ∀ d ∈ ds, ∃ a b, d = .tuple [a, b] := fun d hd => by
          have := List.all_eq_true.mp hp d hd
          cases d with
          | tuple L =>
            have hl : L.length = 2 := by simpa [isP] using this
            obtain ⟨a, b, rfl⟩ := two_of hl
            exact ⟨a, b, rfl⟩
          | _ => simp [isP] at this
        rw [lcK_map (g0 := [.sh (.tuple ds), .no, .no, .no]) (fun d => .bool (isL d)) (fun d => [.sh (.tuple ds), .sh (fstD d), .sh (sndD d), .no]) rfl rfl (fun _ _ => rfl) (fun _ _ => rfl)]
        · rw [bmap]
          have f1 := any_false (ds.map isL)
          have f2 := bools_ok (ds.map isL)
          have q2 : ∀ g kB, kopB (niB (.bool false) (.list ((ds.map isL).map .bool))) g kB = kB (isW (.tuple ds)) g := fun g kB => by
            rw [c_niL okb f2, f1, List.any_map]
            congr 1
            show (!ds.any fun x => !isL x) = ds.all isL
            rw [List.all_eq_not_any_not]
          simp [-List.map_map, ↓q2]
        · intro d hd
          obtain ⟨a, b, rfl⟩ := pr d hd
          obtain ⟨q, rfl, _, td⟩ := tm_tuple' (dt _ hd)
          have okbb : cmpOk b = true := (td b (by simp)).ok (by omega)
          have okt : cmpOk (.tuple [.int 1, .int (-1)]) = true := by decide +kernel
          cases a with
          | str x =>
            cases b with
            | int e =>
              simp [toRf, ↓okR_of (whole_ok _), okbb, okt, PyData.eqv, isL, fstD, sndD]
              rw [Bool.eq_iff_iff]; simp; omega
            | _ => simp [toRf, ↓okR_of (whole_ok _), isL, fstD, sndD]
          | _ => simp [toRf, isL, fstD, sndD]
      · have hp' : ds.all isP = false := by simpa using hp
        have e3 : ((ds.map isP).map PyData.bool).any (fun z => PyData.eqv z (.bool false)) = true := by
          rw [e1, List.any_map]
          obtain ⟨d, hd, he⟩ := List.all_eq_false.mp hp'
          exact List.any_eq_true.mpr ⟨d, hd, by simpa using he⟩
        have e4 : isW (.tuple ds) = false := by
          obtain ⟨d, hd, he⟩ := List.all_eq_false.mp hp'
          refine List.all_eq_false.mpr ⟨d, hd, fun q => he (isL_P q)⟩
        have q1 : ∀ g kB, kopB (inB (.bool false) (.list ((ds.map isP).map .bool))) g kB = kB true g := fun g kB => by rw [c_inL okb e2, e3]
        simp [-List.map_map, ↓q1, e4]
    · intro d hd
      have td := dt d hd
      cases d with
      | tuple L =>
        simp [toRf, isP]
        rw [Bool.eq_iff_iff]; simp; omega
      | _ => simp [toRf, isP]
  | _ => simp [isW]
theorem all_two {ds : List D} (h : ds.all isP = true) : ∀ d ∈ ds, ∃ a b, d = .tuple [a, b] := fun d hd => by
  have := List.all_eq_true.mp h d hd
  cases d with
  | tuple L =>
    have hl : L.length = 2 := by simpa [isP] using this
    obtain ⟨a, b, rfl⟩ := two_of hl
    exact ⟨a, b, rfl⟩
  | _ => simp [isP] at this
theorem eqv_nil (ds : List D) : PyData.eqv (.list ds) (.list []) = ds.isEmpty := by
  cases ds <;> simp [PyData.eqv, PyData.eqvAll]
theorem lst_ok {s n : Nat} {ds : List D} (h : ∀ d ∈ ds, Tm s n d) (hn : n ≤ 60) : cmpOk (.list ds) = true := by
  refine cmp_of ?_ ?_
  · simp only [PyData.canLay0]; exact canLayAll_iff.mpr fun d hd => (h d hd).lay.1
  · simp only [PyData.depth]
    have : PyData.depthAll ds ≤ n := depthAll_le.mpr fun d hd => (h d hd).lay.2
    omega
theorem okl0 : cmpOk (.list []) = true := by decide +kernel
theorem fil_empty {p : D → Bool} {ds : List D} : (ds.filter fun d => !p d).isEmpty = ds.all p := by
  rw [Bool.eq_iff_iff, List.isEmpty_iff, List.filter_eq_nil_iff, List.all_eq_true]
  simp
theorem pairs_ok {s n : Nat} {v : D} (tv : Tm s n v) (hn : n ≤ 40) : d__law_are_pairs_in [v, .int 2] = .ok (.sh (.bool (match v with | .tuple ds => ds.all isP | _ => false))) [] := by
  unfold d__law_are_pairs_in b__law_are_pairs_in
  cases v with
  | tuple ds =>
    obtain ⟨m, rfl, dl, dt⟩ := tm_tuple' tv
    simp
    rw [lcK_fil (g0 := [.sh (.tuple ds), .sh (.int 2), .no]) (fun d => !isP d) (fun d => d) (fun d => [.sh (.tuple ds), .sh (.int 2), .sh d]) rfl rfl (fun _ _ => rfl) (fun _ _ => rfl)]
    · have okf : cmpOk (.list (ds.filter fun d => !isP d)) = true := lst_ok (fun d hd => dt d (List.mem_filter.mp hd).1) (by omega)
      have q : ∀ g kB, kopB (eqB (.list (ds.filter fun d => !isP d)) (.list [])) g kB = kB (ds.all isP) g := fun g kB => by rw [kopB_eq okf okl0, eqv_nil, fil_empty]
      simp [↓q]
    · intro d hd
      cases d with
      | tuple L =>
        simp [toRf, isP]
        by_cases h : L.length = 2
        · have : (L.length : Int) = 2 := by omega
          simp [h, this]
        · have : ¬ (L.length : Int) = 2 := by omega
          simp [h, this]
      | _ => simp [toRf, isP]
  | _ => simp
theorem lis_word_ok {s n : Nat} {v : D} (tv : Tm s n v) (hn : n ≤ 40) : d__law_is_word [v] = .ok (.sh (.bool (isW v))) [] := by
  unfold d__law_is_word b__law_is_word
  have pk := pairs_ok tv hn
  cases v with
  | tuple ds =>
    obtain ⟨m, rfl, dl, dt⟩ := tm_tuple' tv
    by_cases hp : ds.all isP = true
    · have pk' : d__law_are_pairs_in [.tuple ds, .int 2] = .ok (.sh (.bool true)) [] := by rw [pk]; simp only [hp]
      simp [↓okR_of pk']
      rw [lcK_fil (g0 := [.sh (.tuple ds), .no]) (fun d => !isL d) (fun d => d) (fun d => [.sh (.tuple ds), .sh d]) rfl rfl (fun _ _ => rfl) (fun _ _ => rfl)]
      · have okf : cmpOk (.list (ds.filter fun d => !isL d)) = true := lst_ok (fun d hd => dt d (List.mem_filter.mp hd).1) (by omega)
        have q : ∀ g kB, kopB (eqB (.list (ds.filter fun d => !isL d)) (.list [])) g kB = kB (isW (.tuple ds)) g := fun g kB => by rw [kopB_eq okf okl0, eqv_nil, fil_empty]; rfl
        simp [↓q]
      · intro d hd
        obtain ⟨a, b, rfl⟩ := all_two hp d hd
        obtain ⟨q, rfl, _, td⟩ := tm_tuple' (dt _ hd)
        have okbb : cmpOk b = true := (td b (by simp)).ok (by omega)
        have okt : cmpOk (.list [.int 1, .int (-1)]) = true := by decide +kernel
        cases a with
        | str x =>
          cases b with
          | int e =>
            simp [toRf, ↓okR_of (lwhole_ok _), okbb, okt, PyData.eqv, isL]
            by_cases h1 : e = 1
            · subst h1; simp
            · by_cases h2 : e = -1
              · subst h2; simp
              · have h1' : ¬ 1 = e := fun z => h1 z.symm
                have h2' : ¬ -1 = e := fun z => h2 z.symm
                simp [h1, h2, h1', h2']
          | _ => simp [toRf, ↓okR_of (lwhole_ok _), isL]
        | _ => simp [toRf, isL]
    · have hp' : ds.all isP = false := by simpa using hp
      have pk' : d__law_are_pairs_in [.tuple ds, .int 2] = .ok (.sh (.bool false)) [] := by rw [pk]; simp only [hp']
      have e4 : isW (.tuple ds) = false := by
        obtain ⟨d, hd, he⟩ := List.all_eq_false.mp hp'
        refine List.all_eq_false.mpr ⟨d, hd, fun q => he (isL_P q)⟩
      simp [↓okR_of pk', e4]
  | _ => simp [↓okR_of pk, isW]

/-! ### is it told -/
def isT (x : Str) : D → Bool
  | .tuple [.str y, _, _, _] => y == x
  | _ => false
theorem four_of : ∀ {ds : List D}, ds.length = 4 → ∃ a b c d, ds = [a, b, c, d]
  | [a, b, c, d], _ => ⟨a, b, c, d, rfl⟩
  | [], h => by cases h
  | [_], h => by cases h
  | [_, _], h => by cases h
  | [_, _, _], h => by cases h
  | _ :: _ :: _ :: _ :: _ :: _, h => by simp at h
theorem isT_no {x : Str} {ds : List D} (h : ds.length ≠ 4) : isT x (.tuple ds) = false := by
  unfold isT
  split
  · rename_i h2; cases h2; simp at h
  · rfl
theorem told_ok {s n : Nat} {v : D} {x : Str} (hx : PyData.strOk x = true) (tv : Tm s n v) : d_is_told [v, .str x, .int 4] = .ok (.sh (.bool (isT x v))) [] ∧ d__law_is [v, .str x, .int 4] = .ok (.sh (.bool (isT x v))) [] := by
  unfold d_is_told b_is_told d__law_is b__law_is
  cases v with
  | tuple ds =>
    obtain ⟨m, rfl, dl, dt⟩ := tm_tuple' tv
    by_cases hl : ds.length = 4
    · obtain ⟨a, b, c, d, rfl⟩ := four_of hl
      have ta := dt a (by simp)
      cases a with
      | str y =>
        have oky : cmpOk (.str y) = true := by rw [cmpOk_str]; exact (tm_str.mp ta).1
        have okx : cmpOk (.str x) = true := by rw [cmpOk_str]; exact hx
        simp [isT, oky, okx, PyData.eqv]
      | _ => simp [isT]
    · have h2 : ¬ (ds.length : Int) = 4 := by omega
      simp [isT_no hl, hl, h2]
  | _ => simp [isT]
end Z

namespace Z
open PySem L2

/-! ### words that are shortened -/
theorem inv_inv (l : Lt) : inv (inv l) = l := by unfold inv; simp
theorem red_snoc (w : List Lt) (l : Lt) : red (w ++ [l]) = stp (red w) l := by unfold red; rw [List.foldl_append]; rfl
theorem red_nil : red [] = [] := rfl
theorem red_len (w : List Lt) : (red w).length ≤ w.length := by
  have key : ∀ (w acc : List Lt), (w.foldl stp acc).length ≤ acc.length + w.length := by
    intro w
    induction w with
    | nil => intro acc; simp
    | cons l w ih =>
      intro acc
      have h1 := ih (stp acc l)
      have h2 := stp_len acc l
      rw [List.foldl_cons, List.length_cons]; omega
  show (w.foldl stp []).length ≤ _
  simpa using key w []
theorem snoc_inj {α : Type} {a b : List α} {x y : α} (h : a ++ [x] = b ++ [y]) : a = b ∧ x = y := by
  have := List.append_inj' h rfl
  exact ⟨this.1, by simpa using this.2⟩
theorem R_snoc (w : List Lt) (l : Lt) : red (w ++ [l]) = w ++ [l] ↔ red w = w ∧ w.getLast? ≠ some (inv l) := by
  rw [red_snoc]
  constructor
  · intro h
    unfold stp at h
    split at h
    · have h1 := congrArg List.length h
      have h2 := red_len w
      rw [List.length_dropLast, List.length_append, List.length_singleton] at h1
      omega
    · rename_i hn
      have := (snoc_inj h).1
      rw [this] at hn
      exact ⟨this, hn⟩
  · rintro ⟨h1, h2⟩
    rw [h1]; unfold stp; rw [if_neg h2]
theorem R_app (u v : List Lt) : red (u ++ v) = u ++ v ↔ red u = u ∧ red v = v ∧ ∀ a b, u.getLast? = some a → v.head? = some b → a ≠ inv b := by
  obtain ⟨n, hn⟩ : ∃ n, v.length = n := ⟨_, rfl⟩
  induction n generalizing v with
  | zero =>
    have : v = [] := List.length_eq_zero_iff.mp hn
    subst this
    simp [red_nil]
  | succ n ih =>
    rcases snoc_cases v with rfl | ⟨v', l, rfl⟩
    · simp at hn
    · have hv : v'.length = n := by simpa using hn
      rw [← List.append_assoc, R_snoc, R_snoc, ih v' hv]
      rcases List.eq_nil_or_concat v' with rfl | ⟨v2, y, hy⟩
      · simp only [List.append_nil, List.nil_append, List.head?_cons, Option.some.injEq, red_nil]
        constructor
        · rintro ⟨⟨h1, _, _⟩, h3⟩
          exact ⟨h1, ⟨trivial, by simp⟩, fun a b ha hb => by subst hb; exact fun z => h3 (by rw [ha, z])⟩
        · rintro ⟨h1, _, h3⟩
          refine ⟨⟨h1, trivial, by simp⟩, fun z => h3 _ l z rfl rfl⟩
      · have hy : v' = v2 ++ [y] := by simpa using hy
        have hne : v' ≠ [] := by rw [hy]; simp
        have e1 : (u ++ v').getLast? = v'.getLast? := by
          rw [hy, ← List.append_assoc]; simp
        have e2 : (v' ++ [l]).head? = v'.head? := by
          cases v' with
          | nil => exact absurd rfl hne
          | cons _ _ => rfl
        rw [e1, e2]
        constructor
        · rintro ⟨⟨h1, h2, h3⟩, h4⟩; exact ⟨h1, ⟨h2, h4⟩, h3⟩
        · rintro ⟨h1, ⟨h2, h4⟩, h3⟩; exact ⟨⟨h1, h2, h3⟩, h4⟩
theorem R_red (w : List Lt) : red (red w) = red w := by
  obtain ⟨n, hn⟩ : ∃ n, w.length = n := ⟨_, rfl⟩
  induction n generalizing w with
  | zero =>
    have : w = [] := List.length_eq_zero_iff.mp hn
    subst this; rfl
  | succ n ih =>
    rcases snoc_cases w with rfl | ⟨v, l, rfl⟩
    · simp at hn
    · have hv : v.length = n := by simpa using hn
      rw [red_snoc]
      have h := ih v hv
      unfold stp
      split
      · rcases snoc_cases (red v) with q | ⟨a, b, q⟩
        · rw [q]; rfl
        · rw [q] at h ⊢
          rw [List.dropLast_concat]
          exact ((R_snoc a b).mp h).1
      · rename_i hn
        exact (R_snoc _ _).mpr ⟨h, hn⟩
theorem cyc {x y : Lt} {m : List Lt} (h : red (x :: (m ++ [y])) = x :: (m ++ [y])) : red ((x :: (m ++ [y])) ++ (x :: (m ++ [y]))) = (x :: (m ++ [y])) ++ (x :: (m ++ [y])) ↔ ¬ x = inv y := by
  rw [R_app]
  have e : (x :: (m ++ [y])).getLast? = some y := by
    have := List.getLast?_concat (l := x :: m) (a := y)
    simpa only [List.cons_append] using this
  constructor
  · rintro ⟨_, _, h3⟩ z
    exact h3 y x e rfl (by rw [z, inv_inv])
  · intro hn
    refine ⟨h, h, fun a b ha hb => ?_⟩
    rw [e] at ha
    cases ha
    cases hb
    intro z
    exact hn (by rw [z, inv_inv])
theorem red_ok {w : List Lt} (h : Wok w) : Wok (red w) := by
  have key : ∀ (w acc : List Lt), Wok acc → Wok w → Wok (w.foldl stp acc) := by
    intro w
    induction w with
    | nil => intro acc ha _; exact ha
    | cons l w ih => intro acc ha hw; exact ih _ (stp_ok ha (hw l List.mem_cons_self)) fun x hx => hw x (List.mem_cons_of_mem _ hx)
  exact key w [] (fun _ q => absurd q List.not_mem_nil) h
theorem app_ok {a b : List Lt} (h : Wok a) (h2 : Wok b) : Wok (a ++ b) := fun l hl => (List.mem_append.mp hl).elim (h l) (h2 l)

/-! ### both judges tell the same -/
/-- what both tell of words -/
def JJ (w a b c : List Lt) : Bool := if a = red w ∧ red b = b ∧ (1 < b.length → red (b ++ b) = b ++ b) then decide (red (c ++ b ++ bak c) = a) else false
theorem isW_w {s n : Nat} {A : D} (h : isW A = true) (t : Tm s n A) : ∃ a, A = wD a ∧ Wok a ∧ a.length ≤ s := by
  cases A with
  | tuple ds =>
    obtain ⟨m, rfl, dl, dt⟩ := tm_tuple' t
    have key : ∀ ds : List D, ds.all isL = true → (∀ d ∈ ds, Tm s m d) → ∃ a : List Lt, ds = a.map ltD ∧ Wok a := by
      intro ds
      induction ds with
      | nil => intro _ _; exact ⟨[], rfl, fun _ q => absurd q List.not_mem_nil⟩
      | cons d ds ih =>
        intro h t
        rw [List.all_cons, Bool.and_eq_true] at h
        obtain ⟨a, e, ha⟩ := ih h.2 fun d hd => t d (List.mem_cons_of_mem _ hd)
        have hd := h.1
        unfold isL at hd
        split at hd
        · rename_i x e'
          obtain ⟨q, hq, _, td⟩ := tm_tuple' (t _ List.mem_cons_self)
          refine ⟨(x, e') :: a, by rw [e]; rfl, fun l hl => ?_⟩
          rcases List.mem_cons.mp hl with rfl | hl
          · exact ⟨(tm_str.mp (td (.str x) (by simp))).1, by simpa using hd⟩
          · exact ha l hl
        · cases hd
    obtain ⟨a, rfl, ha⟩ := key ds h dt
    exact ⟨a, rfl, ha, by simpa using dl⟩
  | _ => cases h
theorem w_isW {a : List Lt} (h : Wok a) : isW (wD a) = true := List.all_eq_true.mpr fun d hd => by
  obtain ⟨l, hl, rfl⟩ := List.mem_map.mp hd
  have := (h l hl).2
  simp [ltD, isL]; exact this
theorem check_ok {w : List Lt} (hl : w.length ≤ 60) : d_check_word [wD w] = .ok (.sh .none) [] := by
  unfold d_check_word b_check_word wD
  have : ¬ (60 : Int) < w.length := by omega
  simp [this]
theorem cut3 (w A B C : D) : cutL [w, A, B, C] (some 1) none = [A, B, C] := by rw [cut_from (by omega)]; rfl
theorem eqv_str (x y : Str) : PyData.eqv (.str x) (.str y) = (x == y) := by unfold PyData.eqv; rfl
theorem word_ok : PyData.strOk "word" = true := by decide +kernel
section
variable {g : Gam} {k : KD} {kS : KS} {kB : Bool → Gam → R} {a b c r m : List Lt} {x y : Lt}
@[simp ↓] theorem x_wlen : kopD (lenD [wD b]) g k = k (.int b.length) g := by simp [wD]
theorem x_wadd (h : a.length + b.length ≤ sizeLine) : kop (addS (wD a) (wD b)) g kS = kS (.sh (wD (a ++ b))) g := by
  unfold wD
  rw [o_addT (by simpa using h), List.map_append]
@[simp ↓] theorem x_w0 : kopD (ixD (wD (x :: r)) (.int 0)) g k = k (ltD x) g := by
  have e : atI ((x :: r).map ltD) 0 = some (ltD x) := by rw [zatI_nat _ (by omega)]; rfl
  exact zat_of e
@[simp ↓] theorem x_wl : kopD (ixD (wD (x :: (m ++ [y]))) (.int (-1))) g k = k (ltD y) g := by
  have e : wD (x :: (m ++ [y])) = .tuple ((x :: m).map ltD ++ [ltD y]) := by unfold wD; simp
  rw [e]
  exact k_at_end
theorem x_weq (ha : Wok a) (hb : Wok b) : kopB (eqB (wD a) (wD b)) g kB = kB (decide (a = b)) g := by rw [kopB_eq (w_ok ha) (w_ok hb), eqv_w]
theorem x_wne (ha : Wok a) (hb : Wok b) : kopB (neB (wD a) (wD b)) g kB = kB (!decide (a = b)) g := by rw [kopB_ne (w_ok ha) (w_ok hb), eqv_w]
theorem x_leq (ha : PyData.strOk x.1 = true) (hb : PyData.strOk y.1 = true) : kopB (eqB (ltD x) (.tuple [.str y.1, .int (-y.2)])) g kB = kB (decide (x = inv y)) g := by
  have o : cmpOk (.tuple [.str y.1, .int (-y.2)]) = true := lt_ok (l := inv y) hb
  have e : PyData.eqv (ltD x) (.tuple [.str y.1, .int (-y.2)]) = decide (x = inv y) := eqv_lt x (inv y)
  rw [kopB_eq (lt_ok ha) o, e]
end
theorem wD_inj {a b : List Lt} (h : wD a = wD b) : a = b := by
  have h1 := eqv_w a b
  rw [h, eqv_w] at h1
  have : decide (a = b) = true := by rw [← h1]; exact decide_eq_true rfl
  exact of_decide_eq_true this
theorem two_ends {b : List Lt} (h : 1 < b.length) : ∃ x m y, b = x :: (m ++ [y]) := by
  cases b with
  | nil => simp at h
  | cons x r =>
    rcases snoc_cases r with rfl | ⟨m, y, rfl⟩
    · simp at h
    · exact ⟨x, m, y, rfl⟩
theorem bak_len (w : List Lt) : (bak w).length = w.length := by unfold bak; simp
theorem judge_ok {s n : Nat} {w : List Lt} {v : D} (hw : Wok w) (hl : w.length ≤ 60) (tv : Tm s n v) (hn : n ≤ 40) (hs : s ≤ 2 ^ 16) :
    ∃ b : Bool, d_judge_least [wD w, v] = .ok (.sh (.bool b)) [] ∧ d__law_accepts [wD w, v] = .ok (.sh (.bool b)) [] ∧ (∀ a c d : List Lt, v = .tuple [.str "word", wD a, wD c, wD d] → Wok a → Wok c → Wok d → b = JJ w a c d) := by
  obtain ⟨t1, t2⟩ := told_ok word_ok tv
  have ck := check_ok hl
  have okw := w_ok (red_ok hw)
  have sw := shortened_ok hw (by omega)
  have lw := lshort_ok hw (by omega)
  unfold d_judge_least b_judge_least d__law_accepts b__law_accepts
  cases ht : isT "word" v with
  | false =>
    rw [ht] at t1 t2
    refine ⟨false, by simp [↓okR_of ck, ↓okR_of t1], by simp [↓okR_of t2], fun a c d e _ _ _ => ?_⟩
    subst e
    have : isT "word" (.tuple [.str "word", wD a, wD c, wD d]) = true := by simp [isT]
    rw [this] at ht; cases ht
  | true =>
    rw [ht] at t1 t2
    obtain ⟨A, B, C, rfl⟩ : ∃ A B C, v = .tuple [.str "word", A, B, C] := by
      unfold isT at ht
      split at ht
      · rename_i y A B C
        have : y = "word" := by simpa using ht
        subst this
        exact ⟨A, B, C, rfl⟩
      · cases ht
    obtain ⟨m, rfl, dl, dt⟩ := tm_tuple' tv
    have tA := dt A (by simp)
    have tB := dt B (by simp)
    have tC := dt C (by simp)
    have okb : cmpOk (.bool false) = true := cmpOk_bool
    have bo := bools_ok ([A, B, C].map isW)
    have c1 : ∀ k, lcK [2] (turnC (nameG 2) yesB (fz (callC d_is_word (consC (varC 2) nilC)))) (cutL [.str "word", A, B, C] (some 1) none) [.sh (wD w), .sh (.tuple [.str "word", A, B, C]), .no] k = k (.ow (.list (([A, B, C].map isW).map .bool))) [.sh (wD w), .sh (.tuple [.str "word", A, B, C]), .no] := fun k => by
      rw [cut3, lcK_map (g0 := [.sh (wD w), .sh (.tuple [.str "word", A, B, C]), .no]) (fun d => .bool (isW d)) (fun d => [.sh (wD w), .sh (.tuple [.str "word", A, B, C]), .sh d]) rfl rfl (fun _ _ => rfl) (fun _ _ => rfl), bmap]
      intro d hd
      simp [toRf, ↓okR_of (is_word_ok (dt d (by simp at hd; simp; exact .inr hd)) (by omega))]
    have c2 : ∀ k, lcK [2] (turnC (nameG 2) (notB (truB (fz (callC d__law_is_word (consC (varC 2) nilC))))) (varC 2)) (cutL [.str "word", A, B, C] (some 1) none) [.sh (wD w), .sh (.tuple [.str "word", A, B, C]), .no] k = k (.ow (.list ([A, B, C].filter fun d => !isW d))) [.sh (wD w), .sh (.tuple [.str "word", A, B, C]), .no] := fun k => by
      rw [cut3, lcK_fil (g0 := [.sh (wD w), .sh (.tuple [.str "word", A, B, C]), .no]) (fun d => !isW d) (fun d => d) (fun d => [.sh (wD w), .sh (.tuple [.str "word", A, B, C]), .sh d]) rfl rfl (fun _ _ => rfl) (fun _ _ => rfl)]
      · simp
      · intro d hd
        simp [toRf, ↓okR_of (lis_word_ok (dt d (by simp at hd; simp; exact .inr hd)) (by omega))]
    have okf : cmpOk (.list ([A, B, C].filter fun d => !isW d)) = true := lst_ok (s := s) (n := m) (fun d hd => dt d (by have := (List.mem_filter.mp hd).1; simp at this; simp; exact .inr this)) (by omega)
    by_cases hW : isW A = true ∧ isW B = true ∧ isW C = true
    · obtain ⟨a, rfl, ha, la⟩ := isW_w hW.1 tA
      obtain ⟨b, rfl, hb, lb⟩ := isW_w hW.2.1 tB
      obtain ⟨c, rfl, hc, lc⟩ := isW_w hW.2.2 tC
      have hany : (([wD a, wD b, wD c].map isW).map PyData.bool).any (fun z => PyData.eqv z (.bool false)) = false := by
        rw [any_false]
        simp [hW.1, hW.2.1, hW.2.2]
      have q1 : ∀ g kB, kopB (inB (.bool false) (.list (([wD a, wD b, wD c].map isW).map .bool))) g kB = kB false g := fun g kB => by rw [c_inL okb bo, hany]
      have hall : [wD a, wD b, wD c].all isW = true := by simp [hW.1, hW.2.1, hW.2.2]
      have q2 : ∀ g kB, kopB (neB (.list ([wD a, wD b, wD c].filter fun d => !isW d)) (.list [])) g kB = kB false g := fun g kB => by rw [kopB_ne okf okl0, eqv_nil, fil_empty, hall]; rfl
      have sb := shortened_ok hb (by omega)
      have lb' := lshort_ok hb (by omega)
      have z0 : b.length + b.length ≤ sizeLine := by rw [sizeLine_eq]; omega
      have z1 : c.length + b.length ≤ sizeLine := by rw [sizeLine_eq]; omega
      have z2 : (c ++ b).length + (bak c).length ≤ sizeLine := by rw [bak_len, List.length_append, sizeLine_eq]; omega
      have hcb := app_ok (app_ok hc hb) (bak_ok hc)
      have scb := shortened_ok hcb (by rw [List.length_append, List.length_append, bak_len]; omega)
      have lcb := lshort_ok hcb (by rw [List.length_append, List.length_append, bak_len]; omega)
      have lbb := lshort_ok (app_ok hb hb) (by rw [List.length_append]; omega)
      have n1 : ∀ g kB, kopB (neB (wD a) (wD (red w))) g kB = kB (!decide (a = red w)) g := fun g kB => x_wne ha (red_ok hw)
      have n2 : ∀ g kB, kopB (neB (wD (red b)) (wD b)) g kB = kB (!decide (red b = b)) g := fun g kB => x_wne (red_ok hb) hb
      have n3 : ∀ g kB, kopB (eqB (wD (red (c ++ b ++ bak c))) (wD a)) g kB = kB (decide (red (c ++ b ++ bak c) = a)) g := fun g kB => x_weq (red_ok hcb) ha
      have n4 : ∀ g kB, kopB (neB (wD (red (b ++ b))) (wD (b ++ b))) g kB = kB (!decide (red (b ++ b) = b ++ b)) g := fun g kB => x_wne (red_ok (app_ok hb hb)) (app_ok hb hb)
      have n5 : ∀ g kB, kopB (gtB (.int (b.length : Int)) (.int 1)) g kB = kB (decide (1 < b.length)) g := fun g kB => by
        rw [c_gt]; congr 1; rw [Bool.eq_iff_iff]; simp; omega
      refine ⟨JJ w a b c, ?_, ?_, fun a' c' d' e _ _ _ => ?_⟩
      · unfold JJ
        cases d1 : decide (a = red w) with
        | false =>
          have h1 : ¬ a = red w := of_decide_eq_false d1
          rw [if_neg (fun q => h1 q.1)]
          rw [d1] at n1
          simp [↓okR_of ck, ↓okR_of t1, ↓c1, ↓q1, ↓okR_of sw, ↓n1]
        | true =>
          have h1 : a = red w := of_decide_eq_true d1
          rw [d1] at n1
          cases d2 : decide (red b = b) with
          | false =>
            have h2 : ¬ red b = b := of_decide_eq_false d2
            rw [if_neg (fun q => h2 q.2.1)]
            rw [d2] at n2
            simp [↓okR_of ck, ↓okR_of t1, ↓c1, ↓q1, ↓okR_of sw, ↓n1, ↓okR_of sb, ↓n2]
          | true =>
            have h2 : red b = b := of_decide_eq_true d2
            rw [d2] at n2
            by_cases h3 : 1 < b.length
            · obtain ⟨x, m', y, rfl⟩ := two_ends h3
              have hx : PyData.strOk x.1 = true := (hb x (by simp)).1
              have hy : PyData.strOk y.1 = true := (hb y (by simp)).1
              have n6 : ∀ g kB, kopB (eqB (ltD x) (.tuple [.str y.1, .int (-y.2)])) g kB = kB (!decide (red ((x :: (m' ++ [y])) ++ (x :: (m' ++ [y]))) = (x :: (m' ++ [y])) ++ (x :: (m' ++ [y])))) g := fun g kB => by
                rw [x_leq hx hy]
                congr 1
                rw [Bool.eq_iff_iff]
                have := cyc h2
                simp only [decide_eq_true_eq, Bool.not_eq_true', decide_eq_false_iff_not]
                rw [this]; simp
              have n7 : ∀ g kB, kopB (gtB (.int ((x :: (m' ++ [y])).length : Int)) (.int 1)) g kB = kB true g := fun g kB => by rw [n5]; rw [decide_eq_true h3]
              cases d3 : decide (red ((x :: (m' ++ [y])) ++ (x :: (m' ++ [y]))) = (x :: (m' ++ [y])) ++ (x :: (m' ++ [y]))) with
              | false =>
                rw [d3] at n6
                rw [if_neg (fun q => of_decide_eq_false d3 (q.2.2 h3))]
                simp [↓okR_of ck, ↓okR_of t1, ↓c1, ↓q1, ↓okR_of sw, ↓n1, ↓okR_of sb, ↓n2, ↓n7, ↓n6]
              | true =>
                rw [d3] at n6
                rw [if_pos ⟨h1, h2, fun _ => of_decide_eq_true d3⟩]
                simp [-List.append_assoc, ↓okR_of ck, ↓okR_of t1, ↓c1, ↓q1, ↓okR_of sw, ↓n1, ↓okR_of sb, ↓n2, ↓n7, ↓n6, ↓x_wadd z1, ↓x_wadd z2, ↓okR_of (read_back_ok c), ↓okR_of scb, ↓n3]
            · have n7 : ∀ g kB, kopB (gtB (.int (b.length : Int)) (.int 1)) g kB = kB false g := fun g kB => by rw [n5]; rw [decide_eq_false h3]
              rw [if_pos ⟨h1, h2, fun q => absurd q h3⟩]
              simp [-List.append_assoc, ↓okR_of ck, ↓okR_of t1, ↓c1, ↓q1, ↓okR_of sw, ↓n1, ↓okR_of sb, ↓n2, ↓n7, ↓x_wadd z1, ↓x_wadd z2, ↓okR_of (read_back_ok c), ↓okR_of scb, ↓n3]
      · unfold JJ
        cases d1 : decide (a = red w) with
        | false =>
          have h1 : ¬ a = red w := of_decide_eq_false d1
          rw [if_neg (fun q => h1 q.1)]
          rw [d1] at n1
          simp [↓okR_of t2, ↓c2, ↓q2, ↓okR_of lw, ↓n1]
        | true =>
          have h1 : a = red w := of_decide_eq_true d1
          rw [d1] at n1
          cases d2 : decide (red b = b) with
          | false =>
            have h2 : ¬ red b = b := of_decide_eq_false d2
            rw [if_neg (fun q => h2 q.2.1)]
            rw [d2] at n2
            simp [↓okR_of t2, ↓c2, ↓q2, ↓okR_of lw, ↓n1, ↓okR_of lb', ↓n2]
          | true =>
            have h2 : red b = b := of_decide_eq_true d2
            rw [d2] at n2
            by_cases h3 : 1 < b.length
            · have n7 : ∀ g kB, kopB (gtB (.int (b.length : Int)) (.int 1)) g kB = kB true g := fun g kB => by rw [n5]; rw [decide_eq_true h3]
              cases d3 : decide (red (b ++ b) = b ++ b) with
              | false =>
                rw [d3] at n4
                rw [if_neg (fun q => of_decide_eq_false d3 (q.2.2 h3))]
                simp [↓okR_of t2, ↓c2, ↓q2, ↓okR_of lw, ↓n1, ↓okR_of lb', ↓n2, ↓n7, ↓x_wadd z0, ↓okR_of lbb, ↓n4]
              | true =>
                rw [d3] at n4
                rw [if_pos ⟨h1, h2, fun _ => of_decide_eq_true d3⟩]
                simp [-List.append_assoc, ↓okR_of t2, ↓c2, ↓q2, ↓okR_of lw, ↓n1, ↓okR_of lb', ↓n2, ↓n7, ↓x_wadd z0, ↓okR_of lbb, ↓n4, ↓x_wadd z1, ↓x_wadd z2, ↓okR_of (lback_ok c), ↓okR_of lcb, ↓n3]
            · have n7 : ∀ g kB, kopB (gtB (.int (b.length : Int)) (.int 1)) g kB = kB false g := fun g kB => by rw [n5]; rw [decide_eq_false h3]
              rw [if_pos ⟨h1, h2, fun q => absurd q h3⟩]
              simp [-List.append_assoc, ↓okR_of t2, ↓c2, ↓q2, ↓okR_of lw, ↓n1, ↓okR_of lb', ↓n2, ↓n7, ↓x_wadd z1, ↓x_wadd z2, ↓okR_of (lback_ok c), ↓okR_of lcb, ↓n3]
      · have e1 : wD a = wD a' ∧ wD b = wD c' ∧ wD c = wD d' := by
          injection e with e
          injection e with _ e
          injection e with e1 e
          injection e with e2 e
          injection e with e3 e
          exact ⟨e1, e2, e3⟩
        rw [wD_inj e1.1, wD_inj e1.2.1, wD_inj e1.2.2]
    · have hany : (([A, B, C].map isW).map PyData.bool).any (fun z => PyData.eqv z (.bool false)) = true := by
        rw [any_false]
        simp
        by_cases h1 : isW A = true
        · by_cases h2 : isW B = true
          · have h3 : isW C = false := by cases q : isW C with
              | false => rfl
              | true => exact absurd ⟨h1, h2, q⟩ hW
            exact .inr (.inr h3)
          · exact .inr (.inl (by simpa using h2))
        · exact .inl (by simpa using h1)
      have q1 : ∀ g kB, kopB (inB (.bool false) (.list (([A, B, C].map isW).map .bool))) g kB = kB true g := fun g kB => by rw [c_inL okb bo, hany]
      have hall : [A, B, C].all isW = false := by
        rw [List.all_eq_not_any_not]
        rw [any_false, List.any_map] at hany
        rw [show ([A, B, C].any fun x => !isW x) = true from hany]; rfl
      have q2 : ∀ g kB, kopB (neB (.list ([A, B, C].filter fun d => !isW d)) (.list [])) g kB = kB true g := fun g kB => by rw [kopB_ne okf okl0, eqv_nil, fil_empty, hall]; rfl
      refine ⟨false, by simp [↓okR_of ck, ↓okR_of t1, ↓c1, ↓q1], by simp [↓okR_of t2, ↓c2, ↓q2], fun a c d e h1 h2 h3 => ?_⟩
      cases e
      exact absurd ⟨w_isW h1, w_isW h2, w_isW h3⟩ hW
end Z

namespace Z
open PySem L2

theorem while_st {β : Type} {ft : DnB} {f : Gam → R} {g0 : Gam} (S : β → Gam) (P : β → Prop) (c : β → Bool) (meas : β → Nat) (hc : ∀ b k, P b → ft (S b) k = k (c b) (S b))
    (hs : ∀ b, P b → c b = true → ∃ b' g', f (S b) = .nx g' ∧ g'.length = g0.length ∧ mask g0 g' = S b' ∧ P b' ∧ meas b' < meas b) : ∀ (n : Nat) (b : β), P b → meas b < n → ∃ b', whileR ft f g0 n (S b) = .nx (S b') ∧ P b' ∧ c b' = false
  | 0, b, _, h => absurd h (Nat.not_lt_zero _)
  | n + 1, b, hp, h => by
    unfold whileR
    rw [hc b _ hp]
    cases q : c b with
    | false => exact ⟨b, by simp, hp, q⟩
    | true =>
      obtain ⟨b', g', e1, e2, e3, e4, e5⟩ := hs b hp q
      obtain ⟨b2, h1, h2⟩ := while_st S P c meas hc hs n b' e4 (by omega)
      refine ⟨b2, ?_, h2⟩
      simp only [if_true, e1, e2, e3]
      exact h1
section
variable {g : Gam} {k : KD} {kS : KS} {a b r m : List Lt} {x y : Lt}
theorem cutL_map {α β : Type} {f : α → β} {l : List α} {lo hi : Option Int} : cutL (l.map f) lo hi = (cutL l lo hi).map f := by
  unfold cutL; rw [List.length_map, ← List.map_drop, ← List.map_take]
@[simp ↓] theorem x_wc1 : kop (cutF (wD (x :: r)) none (some 1)) g kS = kS (.sh (wD [x])) g := by
  unfold wD; rw [o_cutT, cutL_map, cut_to (by omega)]; rfl
@[simp ↓] theorem x_wc2 : kop (cutF (wD (x :: (m ++ [y]))) (some 1) (some (-1))) g kS = kS (.sh (wD m)) g := by
  unfold wD; rw [o_cutT, cutL_map, cut_in]; simp
end
/-- may it be shortened at its ends -/
def cnd (b : List Lt) : Bool := decide (1 < b.length) && decide (b.head? = b.getLast?.map inv)
theorem cnd_ends {x y : Lt} {m : List Lt} : cnd (x :: (m ++ [y])) = decide (x = inv y) := by
  unfold cnd
  have e : (x :: (m ++ [y])).getLast? = some y := by
    have := List.getLast?_concat (l := x :: m) (a := y)
    simpa only [List.cons_append] using this
  rw [e]; simp
theorem cnd_short {b : List Lt} (h : ¬ 1 < b.length) : cnd b = false := by unfold cnd; rw [decide_eq_false h]; rfl
theorem bak_snoc (t : List Lt) (x : Lt) : bak (t ++ [x]) = inv x :: bak t := by unfold bak; simp
theorem red_mem (w : List Lt) (l : Lt) (h : l ∈ red w) : l ∈ w := by
  have key : ∀ (w acc : List Lt), l ∈ w.foldl stp acc → l ∈ acc ∨ l ∈ w := by
    intro w
    induction w with
    | nil => intro acc h; exact .inl h
    | cons x w ih =>
      intro acc h
      rcases ih _ h with h | h
      · unfold stp at h
        split at h
        · exact .inl ((List.dropLast_sublist _).subset h)
        · rcases List.mem_append.mp h with h | h
          · exact .inl h
          · rw [List.mem_singleton.mp h]; exact .inr List.mem_cons_self
      · exact .inr (List.mem_cons_of_mem _ h)
  exact (key w [] h).elim (fun q => absurd q List.not_mem_nil) id
theorem least_ok {w : List Lt} (hw : Wok w) (hl : w.length ≤ 60) : ∃ ring turn : List Lt, d_least [wD w] = .ok (.sh (.tuple [.str "word", wD (red w), wD ring, wD turn])) [] ∧ JJ w (red w) ring turn = true ∧ Wok ring ∧ Wok turn ∧ ring.length ≤ w.length ∧ turn.length ≤ w.length ∧ ∀ l, l ∈ red w ∨ l ∈ ring ∨ l ∈ turn → l ∈ w := by
  unfold d_least b_least
  have ck := check_ok hl
  have sw := shortened_ok hw (by omega)
  have rl := red_len w
  obtain ⟨⟨turn, ring⟩, e, ⟨p1, p2, p3⟩, pc⟩ := while_st (g0 := [.sh (wD w), .sh (wD (red w)), .sh (wD []), .sh (wD (red w))])
    (ft := andB (binB gtB (opsD lenD (consC (borC 3) nilC)) (conC (.int 1))) (binB eqB (binD ixD (borC 3) (conC (.int 0))) (tupC (consC (binD ixD (binD ixD (borC 3) (unD negD (conC (.int 1)))) (conC (.int 0))) (consC (unD negD (binD ixD (binD ixD (borC 3) (unD negD (conC (.int 1)))) (conC (.int 1)))) nilC)))))
    (f := bodyW (parT 2 3 (consC (fz (binF addS (borC 2) (fz (slcC (borC 3) noO (atO (conC (.int 1))))))) (consC (fz (slcC (borC 3) (atO (conC (.int 1))) (atO (unD negD (conC (.int 1)))))) nilC))))
    (fun b : List Lt × List Lt => [.sh (wD w), .sh (wD (red w)), .sh (wD b.1), .sh (wD b.2)]) (fun b => b.1 ++ b.2 ++ bak b.1 = red w ∧ Wok b.1 ∧ Wok b.2) (fun b => cnd b.2) (fun b => b.2.length)
    (fun b k ⟨q1, q2, q3⟩ => by
      obtain ⟨t, r⟩ := b
      have n5 : ∀ g kB, kopB (gtB (.int (r.length : Int)) (.int 1)) g kB = kB (decide (1 < r.length)) g := fun g kB => by
        rw [c_gt]; congr 1; rw [Bool.eq_iff_iff]; simp; omega
      by_cases h3 : 1 < r.length
      · obtain ⟨x, m, y, rfl⟩ := two_ends h3
        rw [decide_eq_true h3] at n5
        have hx : PyData.strOk x.1 = true := (q3 x (by simp)).1
        have hy : PyData.strOk y.1 = true := (q3 y (by simp)).1
        have n6 : ∀ g kB, kopB (eqB (ltD x) (.tuple [.str y.1, .int (-y.2)])) g kB = kB (cnd (x :: (m ++ [y]))) g := fun g kB => by rw [x_leq hx hy, cnd_ends]
        simp [↓n5, ↓n6]
      · rw [decide_eq_false h3] at n5
        simp [↓n5, cnd_short h3])
    (fun b ⟨q1, q2, q3⟩ hc => by
      obtain ⟨t, r⟩ := b
      have h3 : 1 < r.length := Classical.byContradiction fun q => by rw [show cnd r = false from cnd_short q] at hc; cases hc
      obtain ⟨x, m, y, rfl⟩ := two_ends h3
      have hxy : x = inv y := by
        have : cnd (x :: (m ++ [y])) = true := hc
        rw [cnd_ends] at this
        exact of_decide_eq_true this
      have z : t.length + [x].length ≤ sizeLine := by
        have := congrArg List.length q1
        rw [List.length_append, List.length_append] at this
        rw [sizeLine_eq, List.length_singleton]
        simp only at this
        omega
      refine ⟨(t ++ [x], m), [.sh (wD w), .sh (wD (red w)), .sh (wD (t ++ [x])), .sh (wD m)], ?_, rfl, rfl, ⟨?_, app_ok q2 fun l hl => by rw [List.mem_singleton.mp hl]; exact q3 x (by simp), fun l hl => q3 l (by simp [hl])⟩, by simp; omega⟩
      · simp [↓x_wadd z]
      · show t ++ [x] ++ m ++ bak (t ++ [x]) = red w
        rw [← q1, bak_snoc, hxy, inv_inv]
        simp) 4096 ([], red w) ⟨by simp [bak], fun _ q => absurd q List.not_mem_nil, red_ok hw⟩ (by show (red w).length < 4096; omega)
  simp only at p1 p2 p3 pc
  have hR : red ring = ring ∧ turn.length ≤ (red w).length ∧ ring.length ≤ (red w).length := by
    have h1 := R_red w
    rw [← p1] at h1
    rw [R_app, R_app] at h1
    refine ⟨h1.1.2.1, ?_, ?_⟩ <;> (rw [← p1, List.length_append, List.length_append]; omega)
  refine ⟨ring, turn, ?_, ?_, p3, p2, by omega, by omega, fun l hl => red_mem w l (by
    rcases hl with hl | hl | hl
    · exact hl
    · rw [← p1]; simp [hl]
    · rw [← p1]; simp [hl])⟩
  · have e' : whileR _ _ [.sh (wD w), .sh (wD (red w)), .sh (.tuple []), .sh (wD (red w))] 4096 [.sh (wD w), .sh (wD (red w)), .sh (.tuple []), .sh (wD (red w))] = _ := e
    simp [↓okR_of ck, ↓okR_of sw, ↓thenR_of e']
  · have hc : 1 < ring.length → red (ring ++ ring) = ring ++ ring := fun h3 => by
      obtain ⟨x, m, y, rfl⟩ := two_ends h3
      refine (cyc hR.1).mpr fun z => ?_
      rw [cnd_ends] at pc
      exact of_decide_eq_false pc z
    unfold JJ
    rw [if_pos ⟨rfl, hR.1, hc⟩, p1, R_red]
    exact decide_eq_true rfl
theorem rngOk_of {n : Int} (h0 : 0 ≤ n) (h : n ≤ 1000000) : rngOk 0 n = true := by
  have := sizeLine_eq
  unfold rngOk
  exact decide_eq_true ⟨by omega, by omega, by omega, by omega, by omega⟩
theorem rngD_get {n : Int} {i : Nat} {d : D} (h : (rngD 0 n)[i]? = some d) : d = .int i ∧ (i : Int) < n := by
  unfold rngD at h
  rw [List.getElem?_map] at h
  by_cases hi : i < (n - 0).toNat
  · rw [List.getElem?_range hi] at h
    cases h
    exact ⟨by simp, by omega⟩
  · rw [List.getElem?_eq_none (by simpa using hi)] at h
    cases h
theorem rngD_len {n : Int} : (rngD 0 n).length = n.toNat := by unfold rngD; simp
theorem drawn_ok {st : D} (hs : St st) : ∃ w st', d__law_word [st, .int 7] = .ok (.sh (wD w)) [st'] ∧ St st' ∧ Wok w ∧ w.length ≤ 7 ∧ ∀ l ∈ w, l.1.length ≤ 7 := by
  unfold d__law_word b__law_word
  obtain ⟨n, s1, e1, n0, n8, hs1⟩ := next_k hs (m := 8) (by decide) (by decide)
  obtain ⟨out, s2, e2, hs2, ol, oq⟩ := lcK_st (f := turnC (nameG 2) yesB (tupC (consC (binD ixD (fz (lstC (consC (conC (.str "x")) (consC (conC (.str "y")) nilC)))) (fz (callRC 0 d__law_next (consC (conC (.int 2)) nilC)))) (consC (binD ixD (fz (lstC (consC (conC (.int 1)) (consC (unD negD (conC (.int 1))) nilC)))) (fz (callRC 0 d__law_next (consC (conC (.int 2)) nilC)))) nilC))))
    (vs := [2]) (g := [.rf s1, .sh (.int 7), .no]) (fun b => [.rf b, .sh (.int 7), .no]) (fun b => [.rf b, .sh (.int 7), .no]) St (fun y => ∃ l : Lt, y = ltD l ∧ Lok l ∧ l.1.length ≤ 7) (ds := rngD 0 n) (b := s1) rfl rfl (fun _ => rfl) hs1
    (fun b d _ hb => by
      obtain ⟨k, t1, f1, k0, k2, ht1⟩ := next_k hb (m := 2) (by decide) (by decide)
      obtain ⟨j, t2, f2, j0, j2, ht2⟩ := next_k ht1 (m := 2) (by decide) (by decide)
      obtain ⟨a, am, ae⟩ := atI_mem (ds := [.str "x", .str "y"]) k0 (by simpa using k2)
      obtain ⟨c, cm, ce⟩ := atI_mem (ds := [.int 1, .int (-1)]) j0 (by simpa using j2)
      have ha : ∃ x : Str, a = .str x ∧ PyData.strOk x = true ∧ x.length ≤ 7 := by
        rcases List.mem_cons.mp am with rfl | am
        · exact ⟨_, rfl, by decide +kernel, by decide +kernel⟩
        · exact ⟨_, List.mem_singleton.mp am, by decide +kernel, by decide +kernel⟩
      have hc : ∃ i : Int, c = .int i ∧ (i = 1 ∨ i = -1) := by
        rcases List.mem_cons.mp cm with rfl | cm
        · exact ⟨_, rfl, .inl rfl⟩
        · exact ⟨_, List.mem_singleton.mp cm, .inr rfl⟩
      obtain ⟨x, rfl, x1, x2⟩ := ha
      obtain ⟨i, rfl, i1⟩ := hc
      refine ⟨ltD (x, i), t2, [.rf t2, .sh (.int 7), .sh d], ?_, rfl, rfl, ht2, (x, i), rfl, ⟨x1, i1⟩, x2⟩
      simp [toRf, ↓f1, ↓f2, ↓zat_of ae, ↓zat_of ce]
      rfl)
  have key : ∀ out : List D, (∀ y ∈ out, ∃ l : Lt, y = ltD l ∧ Lok l ∧ l.1.length ≤ 7) → ∃ w : List Lt, out = w.map ltD ∧ Wok w ∧ ∀ l ∈ w, l.1.length ≤ 7 := by
    intro out
    induction out with
    | nil => exact fun _ => ⟨[], rfl, fun _ q => absurd q List.not_mem_nil, fun _ q => absurd q List.not_mem_nil⟩
    | cons y out ih =>
      intro h
      obtain ⟨w, e, h1, h2⟩ := ih fun z hz => h z (List.mem_cons_of_mem _ hz)
      obtain ⟨l, e2, h3, h4⟩ := h y List.mem_cons_self
      refine ⟨l :: w, by rw [e, e2]; rfl, fun z hz => ?_, fun z hz => ?_⟩
      · rcases List.mem_cons.mp hz with rfl | hz
        · exact h3
        · exact h1 z hz
      · rcases List.mem_cons.mp hz with rfl | hz
        · exact h4
        · exact h2 z hz
  obtain ⟨w, rfl, hw, hx⟩ := key out oq
  refine ⟨w, s2, ?_, hs2, hw, ?_, hx⟩
  · simp [↓e1, ↓e_rngK (rngOk_of n0 (by omega)), ↓e2]
    rfl
  · have : w.length = (rngD 0 n).length := by simpa using ol
    rw [this, rngD_len]; omega
theorem judge_dict {w : List Lt} (hl : w.length ≤ 60) : d_judge_least [wD w, .dict []] = .ok (.sh (.bool false)) [] ∧ d__law_accepts [wD w, .dict []] = .ok (.sh (.bool false)) [] := by
  have ck := check_ok hl
  have t1 : d_is_told [.dict [], .str "word", .int 4] = .ok (.sh (.bool false)) [] := by unfold d_is_told b_is_told; simp
  have t2 : d__law_is [.dict [], .str "word", .int 4] = .ok (.sh (.bool false)) [] := by unfold d__law_is b__law_is; simp
  unfold d_judge_least b_judge_least d__law_accepts b__law_accepts
  exact ⟨by simp [↓okR_of ck, ↓okR_of t1], by simp [↓okR_of t2]⟩
/-- what is told of a word that was drawn -/
def Tld (t : D) : Prop := ∃ L, t = .tuple L ∧ 0 < L.length ∧ Tm 8 3 t
theorem tld_of {a b c : List Lt} (h : Wok a ∧ Wok b ∧ Wok c) (hl : a.length ≤ 8 ∧ b.length ≤ 8 ∧ c.length ≤ 8) (hx : ∀ l, l ∈ a ∨ l ∈ b ∨ l ∈ c → l.1.length ≤ 8) : Tld (.tuple [.str "word", wD a, wD b, wD c]) := by
  have tw : ∀ w : List Lt, Wok w → w.length ≤ 8 → (∀ l ∈ w, l.1.length ≤ 8) → Tm 8 2 (wD w) := fun w h1 h2 h3 => ⟨by simpa using h2, fun d hd => by
    obtain ⟨l, hl, rfl⟩ := List.mem_map.mp hd
    refine ⟨by simp, fun e he => ?_⟩
    rcases List.mem_cons.mp he with rfl | he
    · exact tm_str.mpr ⟨(h1 l hl).1, h3 l hl⟩
    · rw [List.mem_singleton.mp he]
      refine tm_int.mpr ?_
      rcases (h1 l hl).2 with q | q <;> rw [q] <;> decide⟩
  refine ⟨_, rfl, by simp, by simp, fun d hd => ?_⟩
  simp only [List.mem_cons, List.not_mem_nil, or_false] at hd
  rcases hd with rfl | rfl | rfl | rfl
  · exact tm_str.mpr ⟨word_ok, by decide +kernel⟩
  · exact tw a h.1 hl.1 fun l hl => hx l (.inl hl)
  · exact tw b h.2.1 hl.2.1 fun l hl => hx l (.inr (.inl hl))
  · exact tw c h.2.2 hl.2.2 fun l hl => hx l (.inr (.inr hl))
def law_in : DnT :=
  (seqT (asgT 7 (ifC (binB ltB (borC 6) (conC (.int 8))) (callRC 1 d__law_odd (consC (varC 5) nilC)) (shF (binD ixD (borC 2) (binD subD (borC 6) (conC (.int 8)))))))
  (iffT (notB (truB (fz (callC (d__law_same 40) (consC (fz (callC d_judge_least (consC (varC 4) (consC (varC 7) nilC)))) (consC (fz (callC d__law_accepts (consC (varC 4) (consC (varC 7) nilC)))) nilC))))))
  (retT (shF (conC (.bool false))))
  skipT))
def law_out : DnT :=
  (seqT (asgT 4 (callRC 1 d__law_word (consC (conC (.int 7)) nilC)))
  (seqT (asgT 5 (callC d_least (consC (varC 4) nilC)))
  (seqT (iffT (orB (notB (truB (fz (callC d__law_accepts (consC (varC 4) (consC (varC 5) nilC)))))) (binB noBB (fz (callC d_judge_least (consC (varC 4) (consC (varC 5) nilC)))) (conC (.bool true))))
  (retT (shF (conC (.bool false))))
  skipT)
  (seqT (asgT 2 (binF addS (fz (slcC (borC 2) (atO (unD negD (conC (.int 3)))) noO)) (fz (lstC (consC (varC 5) nilC)))))
  (forT (rng1I (fz (binF addS (conC (.int 8)) (opsD lenD (consC (borC 2) nilC))))) (nameG 6)
  law_in)))))
theorem both_ok {w : List Lt} (hw : Wok w) (hl : w.length ≤ 60) {v : D} (hv : v = .dict [] ∨ Tm 152 6 v) : ∃ b : Bool, d_judge_least [wD w, v] = .ok (.sh (.bool b)) [] ∧ d__law_accepts [wD w, v] = .ok (.sh (.bool b)) [] := by
  rcases hv with rfl | hv
  · exact ⟨false, judge_dict hl⟩
  · obtain ⟨b, h1, h2, _⟩ := judge_ok hw hl hv (by decide) (by decide)
    exact ⟨b, h1, h2⟩
theorem in_ok {w : List Lt} (hw : Wok w) (hl : w.length ≤ 60) {told : D} (ht : Tld told) {seen : List D} (hsn : ∀ t ∈ seen, Tld t) {s0 st x : D} (hs : St st) {g0 : Gam} (hg : g0 = [.sh s0, .ow st, .ow (.list seen), .sh x, .sh (wD w), .sh told, .no, .no]) :
    ∃ st', forR (bodyR (nameG 6) law_in) g0 (rngD 0 (8 + (seen.length : Int))) g0 = .nx [.sh s0, .ow st', .ow (.list seen), .sh x, .sh (wD w), .sh told, .no, .no] ∧ St st' := by
  subst hg
  exact forR_nx (f := bodyR (nameG 6) law_in) (fun b => [.sh s0, .ow b, .ow (.list seen), .sh x, .sh (wD w), .sh told, .no, .no]) (fun _ b => St b) (ds := rngD 0 (8 + (seen.length : Int))) (b := st) (fun i b d hd hb => by
    obtain ⟨rfl, hi⟩ := rngD_get hd
    obtain ⟨L, rfl, hL, tL⟩ := ht
    unfold law_in
    by_cases h8 : (i : Int) < 8
    · obtain ⟨v, s2, e, hs2, hv⟩ := odd_ok (s := 8) (n := 2) (by decide) (by decide) (by decide) (by decide) hb hL tL
      obtain ⟨q, q1, q2⟩ := both_ok hw hl (v := v) (hv.elim .inl fun h => .inr (h.mono (by decide) (by decide)))
      refine ⟨s2, [.sh s0, .ow s2, .ow (.list seen), .sh x, .sh (wD w), .sh (.tuple L), .sh (.int i), .sh v], ?_, rfl, rfl, hs2⟩
      simp [h8, ↓e, ↓okR_of q1, ↓okR_of q2, ↓okR_of (same_bool 39 q q)]
    · obtain ⟨t, tm, te⟩ := atI_mem (ds := seen) (k := (i : Int) - 8) (by omega) (by omega)
      obtain ⟨L', rfl, _, tL'⟩ := hsn t tm
      obtain ⟨q, q1, q2⟩ := both_ok hw hl (v := .tuple L') (.inr (tL'.mono (by decide) (by decide)))
      refine ⟨b, [.sh s0, .ow b, .ow (.list seen), .sh x, .sh (wD w), .sh (.tuple L), .sh (.int i), .sh (.tuple L')], ?_, rfl, rfl, hb⟩
      simp [h8, ↓zat_of te, ↓okR_of q1, ↓okR_of q2, ↓okR_of (same_bool 39 q q)]) hs
/-- a turn of the law -/
theorem out_ok {s0 st : D} {seen : List D} (hb : St st) (hbl : seen.length ≤ 4) (hbt : ∀ t ∈ seen, Tld t) (i : Int) : ∃ st' seen' w told, bodyR (nameG 3) law_out (.int i) [.sh s0, .ow st, .ow (.list seen), .no, .no, .no, .no, .no] = .nx [.sh s0, .ow st', .ow (.list seen'), .sh (.int i), .sh w, .sh told, .no, .no] ∧ St st' ∧ seen'.length ≤ 4 ∧ ∀ t ∈ seen', Tld t := by
  obtain ⟨w, s1, e1, hs1, hw, wl, wx⟩ := drawn_ok hb
  obtain ⟨ring, turn, e2, hj, hr, htn, rl, tl, lm⟩ := least_ok hw (by omega)
  have rw1 := red_len w
  have td : Tld (.tuple [.str "word", wD (red w), wD ring, wD turn]) := tld_of ⟨red_ok hw, hr, htn⟩ ⟨by omega, by omega, by omega⟩ fun l hl => Nat.le_succ_of_le (wx l (lm l hl))
  have tm : Tm 8 3 (.tuple [.str "word", wD (red w), wD ring, wD turn]) := td.elim fun _ h => h.2.2
  obtain ⟨q, q1, q2, q3⟩ := judge_ok hw (by omega) tm (by decide) (by decide)
  have qt : q = true := by rw [q3 _ _ _ rfl (red_ok hw) hr htn]; exact hj
  subst qt
  generalize hT : PyData.tuple [.str "word", wD (red w), wD ring, wD turn] = T at *
  have cl : (cutL seen (some (-3)) none).length ≤ 3 := by
    rw [cut_back (j := 3) (by decide), List.length_drop]
    show seen.length - (seen.length - 3) ≤ 3
    omega
  have z : (cutL seen (some (-3)) none).length + [T].length ≤ sizeLine := by rw [sizeLine_eq, List.length_singleton]; omega
  have hsn : ∀ t ∈ cutL seen (some (-3)) none ++ [T], Tld t := fun t ht => by
    rcases List.mem_append.mp ht with h | h
    · exact hbt t (cut_mem h)
    · rw [List.mem_singleton.mp h]; exact td
  generalize hS : cutL seen (some (-3)) none = S at *
  obtain ⟨s2, e3, hs2⟩ := in_ok hw (by omega) td hsn (s0 := s0) (x := .int i) hs1 rfl
  have hlen : (S ++ [T]).length ≤ 4 := by rw [List.length_append, List.length_singleton]; omega
  have r8 : rngOk 0 (8 + ((S ++ [T]).length : Int)) = true := rngOk_of (by omega) (by omega)
  refine ⟨s2, S ++ [T], wD w, T, ?_, hs2, hlen, hsn⟩
  unfold law_out
  have hcut : ∀ g kS, kop (cutF (.list seen) (some (-3)) none) g kS = kS (.ow (.list S)) g := fun g kS => by rw [o_cutL, hS]
  simp -implicitDefEqProofs [-o_cutL, -o_addL, ↓okR1_of e1, ↓okR_of e2, ↓okR_of q1, ↓okR_of q2, ↓hcut, ↓o_addL z, ↓e_rngK r8, ↓thenR_of e3]
theorem plain_law (ns : List Int) (hl : ns.length ≤ 63) : d_law [.list (ns.map .int)] = .ok (.sh (.bool true)) [] := by
  have hst : St (.list [.list (ns.map .int), .int 0, .int 0, .int 1]) := ⟨ns, 0, 0, 1, rfl, by omega, by omega, by omega⟩
  have r3 : rngOk 0 3 = true := by decide +kernel
  generalize hs0 : PyData.list (ns.map .int) = s0 at hst
  obtain ⟨b', e, _⟩ := forR_nx (f := bodyR (nameG 3) law_out) (g0 := [.sh s0, .ow (.list [s0, .int 0, .int 0, .int 1]), .ow (.list []), .no, .no, .no, .no, .no])
    (fun b : D × List D => [.sh s0, .ow b.1, .ow (.list b.2), .no, .no, .no, .no, .no]) (fun _ b => St b.1 ∧ b.2.length ≤ 4 ∧ ∀ t ∈ b.2, Tld t) (ds := rngD 0 3) (b := (.list [s0, .int 0, .int 0, .int 1], []))
    (fun i b d hd hP => by
      obtain ⟨hb, hbl, hbt⟩ := hP
      obtain ⟨hd, hi⟩ := rngD_get hd
      subst hd
      obtain ⟨st', seen', w, told, e, h⟩ := out_ok (s0 := s0) hb hbl hbt i
      exact ⟨(st', seen'), _, e, rfl, rfl, h⟩) ⟨hst, by simp, fun _ h => absurd h List.not_mem_nil⟩
  have e' : forR (bodyR (nameG 3) law_out) [.sh s0, .ow (.list [s0, .int 0, .int 0, .int 1]), .ow (.list []), .no, .no, .no, .no, .no] (rngD 0 3) [.sh s0, .ow (.list [s0, .int 0, .int 0, .int 1]), .ow (.list []), .no, .no, .no, .no, .no] = .nx [.sh s0, .ow b'.1, .ow (.list b'.2), .no, .no, .no, .no, .no] := e
  unfold law_out law_in at e'
  unfold d_law b_law
  have s0L : ∀ g kS, kop (listF [s0]) g kS = kS (.ow s0) g := fun g kS => by rw [← hs0]; rfl
  simp [↓s0L, ↓e_rngK r3, ↓thenR_of e']
end Z

namespace Z
open PySem L2
def top (i : Nat) : Stmt := PySem.Challenge.pw_shapewhole_k49_least_words.main.body.getD i (.Pass ⟨0, 0, 0, 0⟩)
structure Fx (K : PySem.W.Frag) (mg : Str → Option Value) : Prop where
  at__law_next : DefAt K mg "_law_next" (top 15)
  at__law_word : DefAt K mg "_law_word" (top 27)
  at_check_word : DefAt K mg "check_word" (top 10)
  at_shortened : DefAt K mg "shortened" (top 9)
  at_least : DefAt K mg "least" (top 12)
  at__law_short : DefAt K mg "_law_short" (top 28)
  at__law_is : DefAt K mg "_law_is" (top 19)
  at__law_back : DefAt K mg "_law_back" (top 17)
  at__law_are_pairs_in : DefAt K mg "_law_are_pairs_in" (top 26)
  at__law_is_whole : DefAt K mg "_law_is_whole" (top 18)
  at__law_is_word : DefAt K mg "_law_is_word" (top 29)
  at__law_accepts : DefAt K mg "_law_accepts" (top 30)
  at_is_told : DefAt K mg "is_told" (top 5)
  at_is_whole : DefAt K mg "is_whole" (top 4)
  at_is_word : DefAt K mg "is_word" (top 11)
  at_read_back : DefAt K mg "read_back" (top 8)
  at_judge_least : DefAt K mg "judge_least" (top 13)
  at__law_ints : DefAt K mg "_law_ints" (top 21)
  at__law_exchanged : DefAt K mg "_law_exchanged" (top 22)
  at__law_cut : DefAt K mg "_law_cut" (top 23)
  at__law_turned_about : DefAt K mg "_law_turned_about" (top 24)
  at__law_changed : DefAt K mg "_law_changed" (top 20)
  at__law_odd : DefAt K mg "_law_odd" (top 25)
  at__law_same : DefAt K mg "_law_same" (top 16)
  at_law : DefAt K mg "law" (top 31)
  fr_bool : mg "bool" = none
  fr_int : mg "int" = none
  fr_isinstance : mg "isinstance" = none
  fr_len : mg "len" = none
  fr_list : mg "list" = none
  fr_range : mg "range" = none
  fr_str : mg "str" = none
  fr_tuple : mg "tuple" = none
  gi_MOST_LETTERS : ∃ t, mg "MOST_LETTERS" = some (.int 60 t)
theorem sc__law_next : FnScope ["state", "limit", "cell", "value"] ["state", "limit"] (defScope (top 15)) := ⟨rfl, rfl, rfl, by decide +kernel, rfl, by decide +kernel, by decide +kernel⟩
theorem ok__law_next {P : Program} {w : World} {K : PySem.W.Frag} {mg : Str → Option Value} {base : Heap} {cls : Nat → Option Value} (E : Fx K mg) : Fok P w K mg base cls 1 "_law_next" 2 [0] d__law_next :=
  fok_of (k := 0) E.at__law_next sc__law_next rfl (fun _ _ _ _ _ _ us hl => match us, hl with | [_, _], _ => rfl) fun f cdv A0 outer s H E' hr A hA => by
        subst hA
        have hu := room_u hr
        have hu0 := hr.units
        delta b__law_next
        exact (dts_cons (dt_if (DW.bb (dw_and (db_cmp (op_eqD hu0) ru_eq (DS.mm (ds_ix ix_seq ru_ix (DR.mm (dr_var (pv 0))) (DS.mm ds_int) (fun _ _ => rfl))) (DS.mm ds_int) (nomark _)) (dw_and1 (db_cmp op_lt ru_iiB (DS.mm (ds_ix ix_seq ru_ix (DR.mm (dr_var (pv 0))) (DS.mm ds_int) (fun _ _ => rfl))) (DS.mm (ds_callB ru_len call_len (by rfl) E.fr_len bt_len (dl_cons (m := false) (DS.mm (ds_ix ix_seq ru_ix (DR.mm (dr_var (pv 0))) (DS.mm ds_int) (fun _ _ => rfl))) dl_nil))) (nomark _)))))
  (dts_cons (dt_set (i := 2) sc__law_next.nd (by rfl) (by first | exact .inl rfl | exact .inr rfl) (DS.f (ds_ix ix_seq ru_ix (DS.mm (ds_ix ix_seq ru_ix (DR.mm (dr_var (pv 0))) (DS.mm ds_int) (fun _ _ => rfl))) (DS.mm (ds_ix ix_seq ru_ix (DR.mm (dr_var (pv 0))) (DS.mm ds_int) (fun _ _ => rfl))) (fun _ _ => rfl))))
  (dts_cons (dt_aug ip_add (pv 0) (DS.r ds_int) (DS.r ds_int))
  (dts_one (dt_if (db_cmp op_ge ru_iiB (DR.mm (dr_var (pv 2))) (DS.mm (ds_op op_pow ru_pow (DS.mm ds_int) (DS.mm ds_int))) (nomark _))
  (dts_one (dt_sub (ds_var (pv 2)) (pv 0) (DS.r ds_int)))
  (dts_one (dt_sub (ds_op op_mod ru_mod (DS.mm (ds_callTy ru_int call_int1 (by rfl) E.fr_int bt_int (dl_cons (m := false) (DS.mm (DF.s (df_op op_addS ru_addS (DS.mm (DF.s (df_op op_addS ru_addS (DS.mm (ds_op op_mul ru_mul (DS.mm (ds_ix ix_seq ru_ix (DR.mm (dr_var (pv 0))) (DS.mm ds_int) (fun _ _ => rfl))) (DS.mm ds_int))) (DS.mm (ds_op op_mod ru_mod (DS.mm (ds_callTy ru_int call_int1 (by rfl) E.fr_int bt_int (dl_cons (m := false) (DR.mm (dr_var (pv 2))) dl_nil))) (DS.mm ds_int)))))) (DS.mm ds_int)))) dl_nil))) (DS.mm ds_int)) (pv 0) (DS.r ds_int)))))))
  dts_nil)
  (dts_cons (dt_if (db_cmp op_gt ru_iiB (DS.mm (ds_ix ix_seq ru_ix (DR.mm (dr_var (pv 0))) (DS.mm ds_int) (fun _ _ => rfl))) (DS.mm ds_int) (nomark _))
  (dts_cons (dt_set (i := 3) sc__law_next.nd (by rfl) (by first | exact .inl rfl | exact .inr rfl) (DS.f (ds_op op_mod ru_mod (DS.mm (ds_callTy ru_int call_int1 (by rfl) E.fr_int bt_int (dl_cons (m := false) (DS.mm (ds_ix ix_seq ru_ix (DR.mm (dr_var (pv 0))) (DS.mm ds_int) (fun _ _ => rfl))) dl_nil))) (DR.mm (dr_var (pv 1))))))
  (dts_cons (dt_sub (ds_op op_fdiv ru_fdv (DS.mm (ds_ix ix_seq ru_ix (DR.mm (dr_var (pv 0))) (DS.mm ds_int) (fun _ _ => rfl))) (DR.mm (dr_var (pv 1)))) (pv 0) (DS.r ds_int))
  (dts_one (dt_retV (pv 3)))))
  dts_nil)
  (dts_cons (dt_sub (ds_op op_mod ru_mod (DS.mm (ds_callTy ru_int call_int1 (by rfl) E.fr_int bt_int (dl_cons (m := false) (DS.mm (DF.s (df_op op_addS ru_addS (DS.mm (ds_op op_mul ru_mul (DS.mm (ds_ix ix_seq ru_ix (DR.mm (dr_var (pv 0))) (DS.mm ds_int) (fun _ _ => rfl))) (DS.mm ds_int))) (DS.mm ds_int)))) dl_nil))) (DS.mm ds_int)) (pv 0) (DS.r ds_int))
  (dts_one (dt_ret (DS.f (ds_op op_mod ru_mod (DS.mm (ds_callTy ru_int call_int1 (by rfl) E.fr_int bt_int (dl_cons (m := false) (DS.mm (ds_op op_fdiv ru_fdv (DS.mm (ds_ix ix_seq ru_ix (DR.mm (dr_var (pv 0))) (DS.mm ds_int) (fun _ _ => rfl))) (DS.mm ds_int))) dl_nil))) (DR.mm (dr_var (pv 1))))))))))
theorem sc__law_word : FnScope ["state", "high", "k"] ["state", "high"] (defScope (top 27)) := ⟨rfl, rfl, rfl, by decide +kernel, rfl, by decide +kernel, by decide +kernel⟩
theorem ok__law_word {P : Program} {w : World} {K : PySem.W.Frag} {mg : Str → Option Value} {base : Heap} {cls : Nat → Option Value} (E : Fx K mg) : Fok P w K mg base cls 2 "_law_word" 2 [0] d__law_word :=
  fok_of (k := 1) E.at__law_word sc__law_word rfl (fun _ _ _ _ _ _ us hl => match us, hl with | [_, _], _ => rfl) fun f cdv A0 outer s H E' hr A hA => by
        subst hA
        have hu := room_u hr
        have hu0 := hr.units
        delta b__law_word
        exact (dts_one (dt_ret (DS.f (ds_tuple (by rfl) (by rfl) E.fr_tuple (dl_cons (m := false) (DS.mm (DF.s (df_lc (own := [("k", 2)]) (by rfl) sc__law_word.nd  (di_rng1 (by rfl) E.fr_range (DS.mm (DF.s (df_callR (Fok.cal (ok__law_next E)) (hr.mono (by omega)) (by rfl) tkF (pv 0) (dl_cons (m := true) (DS.mm (DF.s (df_op op_addS ru_addS (DR.mm (dr_var (pv 1))) (DS.mm ds_int)))) dl_nil))))) (blkOk_by (by kernel_rfl)) (by decide) (fun s H C cl fp A' => (dg_name (i := 2) sc__law_word.nd (by rfl) (by first | exact .inl rfl | exact .inr rfl))) (fun s H C cl fp A' => dts_yes) (fun s H C cl fp A' => (ds_tup (dl_cons (m := true) (DS.mm (ds_ix ix_seq ru_ix (DS.mm (DF.s (df_lst (dl_cons (m := true) (DS.mm ds_str) (dl_cons (m := true) (DS.mm ds_str) dl_nil))))) (DS.mm (DF.s (df_callR (Fok.cal (ok__law_next E)) (hr.mono (by omega)) (by rfl) tk0 (pv 0) (dl_cons (m := true) (DS.mm ds_int) dl_nil)))) (fun _ _ => rfl))) (dl_cons (m := true) (DS.mm (ds_ix ix_seq ru_ix (DS.mm (DF.s (df_lst (dl_cons (m := true) (DS.mm ds_int) (dl_cons (m := true) (DS.mm (ds_un un_neg ru_neg (DS.mm ds_int))) dl_nil))))) (DS.mm (DF.s (df_callR (Fok.cal (ok__law_next E)) (hr.mono (by omega)) (by rfl) tk0 (pv 0) (dl_cons (m := true) (DS.mm ds_int) dl_nil)))) (fun _ _ => rfl))) dl_nil))))))) dl_nil)))))
theorem sc_check_word : FnScope ["word"] ["word"] (defScope (top 10)) := ⟨rfl, rfl, rfl, by decide +kernel, rfl, by decide +kernel, by decide +kernel⟩
theorem ok_check_word {P : Program} {w : World} {K : PySem.W.Frag} {mg : Str → Option Value} {base : Heap} {cls : Nat → Option Value} (E : Fx K mg) : Fok P w K mg base cls 1 "check_word" 1 [] d_check_word :=
  fok_of (k := 0) E.at_check_word sc_check_word rfl (fun _ _ _ _ _ _ us hl => match us, hl with | [_], _ => rfl) fun f cdv A0 outer s H E' hr A hA => by
        subst hA
        have hu := room_u hr
        have hu0 := hr.units
        delta b_check_word
        exact (dts_one (dt_if (db_cmp op_gt ru_iiB (DS.mm (ds_callB ru_len call_len (by rfl) E.fr_len bt_len (dl_cons (m := false) (DR.mm (dr_var (pv 0))) dl_nil))) (DS.mm (ds_glob (by rfl) (E.gi_MOST_LETTERS).choose_spec)) (nomark _))
  (dts_one dt_err)
  dts_nil))
theorem sc_shortened : FnScope ["word", "found", "letter"] ["word"] (defScope (top 9)) := ⟨rfl, rfl, rfl, by decide +kernel, rfl, by decide +kernel, by decide +kernel⟩
theorem ok_shortened {P : Program} {w : World} {K : PySem.W.Frag} {mg : Str → Option Value} {base : Heap} {cls : Nat → Option Value} (E : Fx K mg) : Fok P w K mg base cls 1 "shortened" 1 [] d_shortened :=
  fok_of (k := 0) E.at_shortened sc_shortened rfl (fun _ _ _ _ _ _ us hl => match us, hl with | [_], _ => rfl) fun f cdv A0 outer s H E' hr A hA => by
        subst hA
        have hu := room_u hr
        have hu0 := hr.units
        delta b_shortened
        exact (dts_cons (dt_set (i := 1) sc_shortened.nd (by rfl) (by first | exact .inl rfl | exact .inr rfl) (df_lst (dl_nil (m := true))))
  (dts_cons (dt_for (passes_of (by rfl)) (by rfl) (di_seq (ds_var (pv 0))) (dg_name (i := 2) sc_shortened.nd (by rfl) (by first | exact .inl rfl | exact .inr rfl))
  (dts_one (dt_if (DW.bb (dw_and (db_tru (DR.mm (dr_var (pv 1)))) (dw_and1 (db_cmp (op_eqD hu0) ru_eq (DS.mm (ds_ix ix_seq ru_ix (DR.mm (dr_var (pv 1))) (DS.mm (ds_un un_neg ru_neg (DS.mm ds_int))) (fun _ _ => rfl))) (DS.mm (ds_tup (dl_cons (m := true) (DS.mm (ds_ix ix_seq ru_ix (DR.mm (dr_var (pv 2))) (DS.mm ds_int) (fun _ _ => rfl))) (dl_cons (m := true) (DS.mm (ds_un un_neg ru_neg (DS.mm (ds_ix ix_seq ru_ix (DR.mm (dr_var (pv 2))) (DS.mm ds_int) (fun _ _ => rfl))))) dl_nil)))) (nomark _)))))
  (dts_one (dt_expr (DS.mm (ds_pop (pv 1)))))
  (dts_one (dt_expr (DS.mm (ds_append (pv 1) (dl_cons (m := true) (DS.mm (ds_var (pv 2))) dl_nil))))))))
  (dts_one (dt_ret (DS.f (ds_tuple (by rfl) (by rfl) E.fr_tuple (dl_cons (m := false) (DR.mm (dr_var (pv 1))) dl_nil)))))))
theorem sc_least : FnScope ["word", "short", "turn", "ring"] ["word"] (defScope (top 12)) := ⟨rfl, rfl, rfl, by decide +kernel, rfl, by decide +kernel, by decide +kernel⟩
theorem ok_least {P : Program} {w : World} {K : PySem.W.Frag} {mg : Str → Option Value} {base : Heap} {cls : Nat → Option Value} (E : Fx K mg) : Fok P w K mg base cls 2 "least" 1 [] d_least :=
  fok_of (k := 1) E.at_least sc_least rfl (fun _ _ _ _ _ _ us hl => match us, hl with | [_], _ => rfl) fun f cdv A0 outer s H E' hr A hA => by
        subst hA
        have hu := room_u hr
        have hu0 := hr.units
        delta b_least
        exact (dts_cons (dt_expr (DS.mm (DF.s (df_call (Fok.cal (ok_check_word E)) (hr.mono (by omega)) (by rfl) tkF (dl_cons (m := true) (DS.mm (ds_var (pv 0))) dl_nil)))))
  (dts_cons (dt_set (i := 1) sc_least.nd (by rfl) (by first | exact .inl rfl | exact .inr rfl) (df_call (Fok.cal (ok_shortened E)) (hr.mono (by omega)) (by rfl) tkF (dl_cons (m := true) (DS.mm (ds_var (pv 0))) dl_nil)))
  (dts_cons (dt_set (i := 2) sc_least.nd (by rfl) (by first | exact .inl rfl | exact .inr rfl) (DS.f (ds_tup (dl_nil (m := true)))))
  (dts_cons (dt_set (i := 3) sc_least.nd (by rfl) (by first | exact .inl rfl | exact .inr rfl) (DS.f (ds_var (pv 1))))
  (dts_cons (dt_while 4096 (passes_of (by rfl)) (DW.bb (dw_and (db_cmp op_gt ru_iiB (DS.mm (ds_callB ru_len call_len (by rfl) E.fr_len bt_len (dl_cons (m := false) (DR.mm (dr_var (pv 3))) dl_nil))) (DS.mm ds_int) (nomark _)) (dw_and1 (db_cmp (op_eqD hu0) ru_eq (DS.mm (ds_ix ix_seq ru_ix (DR.mm (dr_var (pv 3))) (DS.mm ds_int) (fun _ _ => rfl))) (DS.mm (ds_tup (dl_cons (m := true) (DS.mm (ds_ix ix_seq ru_ix (DS.mm (ds_ix ix_seq ru_ix (DR.mm (dr_var (pv 3))) (DS.mm (ds_un un_neg ru_neg (DS.mm ds_int))) (fun _ _ => rfl))) (DS.mm ds_int) (fun _ _ => rfl))) (dl_cons (m := true) (DS.mm (ds_un un_neg ru_neg (DS.mm (ds_ix ix_seq ru_ix (DS.mm (ds_ix ix_seq ru_ix (DR.mm (dr_var (pv 3))) (DS.mm (ds_un un_neg ru_neg (DS.mm ds_int))) (fun _ _ => rfl))) (DS.mm ds_int) (fun _ _ => rfl))))) dl_nil)))) (nomark _)))))
  (dts_one (dt_par (i := 2) (j := 3) (by rfl) sc_least.nd (by rfl) (by rfl) (by decide) (by rfl) (by rfl) (dl_cons (m := true) (DS.mm (DF.s (df_op op_addS ru_addS (DR.mm (dr_var (pv 2))) (DS.mm (DF.s (df_slc (DR.mm (dr_var (pv 3))) do_none (do_some (DS.mm ds_int)))))))) (dl_cons (m := true) (DS.mm (DF.s (df_slc (DR.mm (dr_var (pv 3))) (do_some (DS.mm ds_int)) (do_some (DS.mm (ds_un un_neg ru_neg (DS.mm ds_int))))))) dl_nil)) (by rfl))))
  (dts_one (dt_ret (DS.f (ds_tup (dl_cons (m := true) (DS.mm ds_str) (dl_cons (m := true) (DS.mm (ds_var (pv 1))) (dl_cons (m := true) (DS.mm (ds_var (pv 3))) (dl_cons (m := true) (DS.mm (ds_var (pv 2))) dl_nil)))))))))))))
theorem sc__law_short : FnScope ["word", "found", "name", "sign"] ["word"] (defScope (top 28)) := ⟨rfl, rfl, rfl, by decide +kernel, rfl, by decide +kernel, by decide +kernel⟩
theorem ok__law_short {P : Program} {w : World} {K : PySem.W.Frag} {mg : Str → Option Value} {base : Heap} {cls : Nat → Option Value} (E : Fx K mg) : Fok P w K mg base cls 1 "_law_short" 1 [] d__law_short :=
  fok_of (k := 0) E.at__law_short sc__law_short rfl (fun _ _ _ _ _ _ us hl => match us, hl with | [_], _ => rfl) fun f cdv A0 outer s H E' hr A hA => by
        subst hA
        have hu := room_u hr
        have hu0 := hr.units
        delta b__law_short
        exact (dts_cons (dt_set (i := 1) sc__law_short.nd (by rfl) (by first | exact .inl rfl | exact .inr rfl) (df_lst (dl_nil (m := true))))
  (dts_cons (dt_for (passes_of (by rfl)) (by rfl) (di_seq (ds_var (pv 0))) (dg_tup (n := 2) (by rfl) (dgs_cons (dg_name (i := 2) sc__law_short.nd (by rfl) (by first | exact .inl rfl | exact .inr rfl)) (dgs_cons (dg_name (i := 3) sc__law_short.nd (by rfl) (by first | exact .inl rfl | exact .inr rfl)) dgs_nil)))
  (dts_one (dt_if (DW.bb (dw_and (db_cmp (op_neD hu0) ru_ne (DR.mm (dr_var (pv 1))) (DS.mm (DF.s (df_lst (dl_nil (m := true))))) (nomark _)) (dw_and1 (db_cmp (op_eqD hu0) ru_eq (DS.mm (ds_ix ix_seq ru_ix (DR.mm (dr_var (pv 1))) (DS.mm (ds_un un_neg ru_neg (DS.mm ds_int))) (fun _ _ => rfl))) (DS.mm (ds_tup (dl_cons (m := true) (DS.mm (ds_var (pv 2))) (dl_cons (m := true) (DS.mm (ds_op op_sub ru_sub (DS.mm ds_int) (DR.mm (dr_var (pv 3))))) dl_nil)))) (nomark _)))))
  (dts_one (dt_expr (DS.mm (ds_pop (pv 1)))))
  (dts_one (dt_expr (DS.mm (ds_append (pv 1) (dl_cons (m := true) (DS.mm (ds_tup (dl_cons (m := true) (DS.mm (ds_var (pv 2))) (dl_cons (m := true) (DS.mm (ds_var (pv 3))) dl_nil)))) dl_nil))))))))
  (dts_one (dt_ret (DS.f (ds_tuple (by rfl) (by rfl) E.fr_tuple (dl_cons (m := false) (DR.mm (dr_var (pv 1))) dl_nil)))))))
theorem sc__law_is : FnScope ["told", "word", "count"] ["told", "word", "count"] (defScope (top 19)) := ⟨rfl, rfl, rfl, by decide +kernel, rfl, by decide +kernel, by decide +kernel⟩
theorem ok__law_is {P : Program} {w : World} {K : PySem.W.Frag} {mg : Str → Option Value} {base : Heap} {cls : Nat → Option Value} (E : Fx K mg) : Fok P w K mg base cls 1 "_law_is" 3 [] d__law_is :=
  fok_of (k := 0) E.at__law_is sc__law_is rfl (fun _ _ _ _ _ _ us hl => match us, hl with | [_, _, _], _ => rfl) fun f cdv A0 outer s H E' hr A hA => by
        subst hA
        have hu := room_u hr
        have hu0 := hr.units
        delta b__law_is
        exact (dts_one (dt_ret (DS.f (ds_and (ds_isi (by rfl) E.fr_isinstance (by rfl) E.fr_tuple bt_tuple (by decide) (DR.mm (dr_var (pv 0)))) (ds_and (ds_cmp (op_eqD hu0) ru_eq (DS.mm (ds_callB ru_len call_len (by rfl) E.fr_len bt_len (dl_cons (m := false) (DR.mm (dr_var (pv 0))) dl_nil))) (DR.mm (dr_var (pv 2))) (nomark _)) (ds_and (ds_isi (by rfl) E.fr_isinstance (by rfl) E.fr_str bt_str (by decide) (DS.mm (ds_ix ix_seq ru_ix (DR.mm (dr_var (pv 0))) (DS.mm ds_int) (fun _ _ => rfl)))) (ds_one (ds_cmp (op_eqD hu0) ru_eq (DS.mm (ds_ix ix_seq ru_ix (DR.mm (dr_var (pv 0))) (DS.mm ds_int) (fun _ _ => rfl))) (DR.mm (dr_var (pv 1))) (nomark _)))))))))
theorem sc__law_back : FnScope ["word", "name", "sign"] ["word"] (defScope (top 17)) := ⟨rfl, rfl, rfl, by decide +kernel, rfl, by decide +kernel, by decide +kernel⟩
theorem ok__law_back {P : Program} {w : World} {K : PySem.W.Frag} {mg : Str → Option Value} {base : Heap} {cls : Nat → Option Value} (E : Fx K mg) : Fok P w K mg base cls 1 "_law_back" 1 [] d__law_back :=
  fok_of (k := 0) E.at__law_back sc__law_back rfl (fun _ _ _ _ _ _ us hl => match us, hl with | [_], _ => rfl) fun f cdv A0 outer s H E' hr A hA => by
        subst hA
        have hu := room_u hr
        have hu0 := hr.units
        delta b__law_back
        exact (dts_one (dt_ret (DS.f (ds_tuple (by rfl) (by rfl) E.fr_tuple (dl_cons (m := false) (DS.mm (DF.s (df_lc (own := [("name", 1), ("sign", 2)]) (by rfl) sc__law_back.nd  (di_seq (DF.s (df_rev (DR.mm (dr_var (pv 0)))))) (blkOk_by (by kernel_rfl)) (by decide) (fun s H C cl fp A' => (dg_tup (n := 2) (by rfl) (dgs_cons (dg_name (i := 1) sc__law_back.nd (by rfl) (by first | exact .inl rfl | exact .inr rfl)) (dgs_cons (dg_name (i := 2) sc__law_back.nd (by rfl) (by first | exact .inl rfl | exact .inr rfl)) dgs_nil)))) (fun s H C cl fp A' => dts_yes) (fun s H C cl fp A' => (ds_tup (dl_cons (m := true) (DS.mm (ds_var (pv 1))) (dl_cons (m := true) (DS.mm (ds_op op_sub ru_sub (DS.mm ds_int) (DR.mm (dr_var (pv 2))))) dl_nil))))))) dl_nil)))))
theorem sc__law_are_pairs_in : FnScope ["value", "count", "entry"] ["value", "count"] (defScope (top 26)) := ⟨rfl, rfl, rfl, by decide +kernel, rfl, by decide +kernel, by decide +kernel⟩
theorem ok__law_are_pairs_in {P : Program} {w : World} {K : PySem.W.Frag} {mg : Str → Option Value} {base : Heap} {cls : Nat → Option Value} (E : Fx K mg) : Fok P w K mg base cls 1 "_law_are_pairs_in" 2 [] d__law_are_pairs_in :=
  fok_of (k := 0) E.at__law_are_pairs_in sc__law_are_pairs_in rfl (fun _ _ _ _ _ _ us hl => match us, hl with | [_, _], _ => rfl) fun f cdv A0 outer s H E' hr A hA => by
        subst hA
        have hu := room_u hr
        have hu0 := hr.units
        delta b__law_are_pairs_in
        exact (dts_one (dt_ret (DS.f (ds_and (ds_isi (by rfl) E.fr_isinstance (by rfl) E.fr_tuple bt_tuple (by decide) (DR.mm (dr_var (pv 0)))) (ds_one (ds_cmp (op_eqD hu0) ru_eq (DS.mm (DF.s (df_lc (own := [("entry", 2)]) (by rfl) sc__law_are_pairs_in.nd  (di_seq (ds_var (pv 0))) (blkOk_by (by kernel_rfl)) (by decide) (fun s H C cl fp A' => (dg_name (i := 2) sc__law_are_pairs_in.nd (by rfl) (by first | exact .inl rfl | exact .inr rfl))) (fun s H C cl fp A' => (dts_if (DW.bb (dw_or (db_not (db_tru (DS.mm (ds_isi (by rfl) E.fr_isinstance (by rfl) E.fr_tuple bt_tuple (by decide) (DR.mm (dr_var (pv 2))))))) (dw_or1 (db_cmp (op_neD hu0) ru_ne (DS.mm (ds_callB ru_len call_len (by rfl) E.fr_len bt_len (dl_cons (m := false) (DR.mm (dr_var (pv 2))) dl_nil))) (DR.mm (dr_var (pv 1))) (nomark _))))))) (fun s H C cl fp A' => (ds_var (pv 2)))))) (DS.mm (DF.s (df_lst (dl_nil (m := true))))) (nomark _)))))))
theorem sc__law_is_whole : FnScope ["value"] ["value"] (defScope (top 18)) := ⟨rfl, rfl, rfl, by decide +kernel, rfl, by decide +kernel, by decide +kernel⟩
theorem ok__law_is_whole {P : Program} {w : World} {K : PySem.W.Frag} {mg : Str → Option Value} {base : Heap} {cls : Nat → Option Value} (E : Fx K mg) : Fok P w K mg base cls 1 "_law_is_whole" 1 [] d__law_is_whole :=
  fok_of (k := 0) E.at__law_is_whole sc__law_is_whole rfl (fun _ _ _ _ _ _ us hl => match us, hl with | [_], _ => rfl) fun f cdv A0 outer s H E' hr A hA => by
        subst hA
        have hu := room_u hr
        have hu0 := hr.units
        delta b__law_is_whole
        exact (dts_one (dt_ret (DS.f (ds_and (ds_isi (by rfl) E.fr_isinstance (by rfl) E.fr_int bt_int (by decide) (DR.mm (dr_var (pv 0)))) (ds_one (ds_not (DS.mm (ds_isi (by rfl) E.fr_isinstance (by rfl) E.fr_bool bt_bool (by decide) (DR.mm (dr_var (pv 0)))))))))))
theorem sc__law_is_word : FnScope ["value", "letter"] ["value"] (defScope (top 29)) := ⟨rfl, rfl, rfl, by decide +kernel, rfl, by decide +kernel, by decide +kernel⟩
theorem ok__law_is_word {P : Program} {w : World} {K : PySem.W.Frag} {mg : Str → Option Value} {base : Heap} {cls : Nat → Option Value} (E : Fx K mg) : Fok P w K mg base cls 2 "_law_is_word" 1 [] d__law_is_word :=
  fok_of (k := 1) E.at__law_is_word sc__law_is_word rfl (fun _ _ _ _ _ _ us hl => match us, hl with | [_], _ => rfl) fun f cdv A0 outer s H E' hr A hA => by
        subst hA
        have hu := room_u hr
        have hu0 := hr.units
        delta b__law_is_word
        exact (dts_cons (dt_if (db_not (db_tru (DS.mm (DF.s (df_call (Fok.cal (ok__law_are_pairs_in E)) (hr.mono (by omega)) (by rfl) tkF (dl_cons (m := true) (DS.mm (ds_var (pv 0))) (dl_cons (m := true) (DS.mm ds_int) dl_nil)))))))
  (dts_one (dt_ret (DS.f ds_bl)))
  dts_nil)
  (dts_one (dt_ret (DS.f (ds_cmp (op_eqD hu0) ru_eq (DS.mm (DF.s (df_lc (own := [("letter", 1)]) (by rfl) sc__law_is_word.nd  (di_seq (ds_var (pv 0))) (blkOk_by (by kernel_rfl)) (by decide) (fun s H C cl fp A' => (dg_name (i := 1) sc__law_is_word.nd (by rfl) (by first | exact .inl rfl | exact .inr rfl))) (fun s H C cl fp A' => (dts_if (db_not (DW.bb (dw_and (db_tru (DS.mm (ds_isi (by rfl) E.fr_isinstance (by rfl) E.fr_str bt_str (by decide) (DS.mm (ds_ix ix_seq ru_ix (DR.mm (dr_var (pv 1))) (DS.mm ds_int) (fun _ _ => rfl)))))) (dw_and (db_tru (DS.mm (DF.s (df_call (Fok.cal (ok__law_is_whole E)) (hr.mono (by omega)) (by rfl) tk0 (dl_cons (m := true) (DS.mm (ds_ix ix_seq ru_ix (DR.mm (dr_var (pv 1))) (DS.mm ds_int) (fun _ _ => rfl))) dl_nil))))) (dw_and1 (db_cmp (op_inX hu) ru_in (DS.mm (ds_ix ix_seq ru_ix (DR.mm (dr_var (pv 1))) (DS.mm ds_int) (fun _ _ => rfl))) (DS.mm (DF.s (df_lst (dl_cons (m := true) (DS.mm ds_int) (dl_cons (m := true) (DS.mm (ds_un un_neg ru_neg (DS.mm ds_int))) dl_nil))))) (by rfl))))))))) (fun s H C cl fp A' => (ds_var (pv 1)))))) (DS.mm (DF.s (df_lst (dl_nil (m := true))))) (nomark _))))))
theorem sc__law_accepts : FnScope ["word", "told", "part"] ["word", "told"] (defScope (top 30)) := ⟨rfl, rfl, rfl, by decide +kernel, rfl, by decide +kernel, by decide +kernel⟩
theorem ok__law_accepts {P : Program} {w : World} {K : PySem.W.Frag} {mg : Str → Option Value} {base : Heap} {cls : Nat → Option Value} (E : Fx K mg) : Fok P w K mg base cls 3 "_law_accepts" 2 [] d__law_accepts :=
  fok_of (k := 2) E.at__law_accepts sc__law_accepts rfl (fun _ _ _ _ _ _ us hl => match us, hl with | [_, _], _ => rfl) fun f cdv A0 outer s H E' hr A hA => by
        subst hA
        have hu := room_u hr
        have hu0 := hr.units
        delta b__law_accepts
        exact (dts_cons (dt_if (DW.bb (dw_or (db_not (db_tru (DS.mm (DF.s (df_call (Fok.cal (ok__law_is E)) (hr.mono (by omega)) (by rfl) tkF (dl_cons (m := true) (DS.mm (ds_var (pv 1))) (dl_cons (m := true) (DS.mm ds_str) (dl_cons (m := true) (DS.mm ds_int) dl_nil)))))))) (dw_or1 (db_cmp (op_neD hu0) ru_ne (DS.mm (DF.s (df_lc (own := [("part", 2)]) (by rfl) sc__law_accepts.nd  (di_seq (DF.s (df_slc (DR.mm (dr_var (pv 1))) (do_some (DS.mm ds_int)) do_none))) (blkOk_by (by kernel_rfl)) (by decide) (fun s H C cl fp A' => (dg_name (i := 2) sc__law_accepts.nd (by rfl) (by first | exact .inl rfl | exact .inr rfl))) (fun s H C cl fp A' => (dts_if (db_not (db_tru (DS.mm (DF.s (df_call (Fok.cal (ok__law_is_word E)) (hr.mono (by omega)) (by rfl) tk0 (dl_cons (m := true) (DS.mm (ds_var (pv 2))) dl_nil)))))))) (fun s H C cl fp A' => (ds_var (pv 2)))))) (DS.mm (DF.s (df_lst (dl_nil (m := true))))) (nomark _)))))
  (dts_one (dt_ret (DS.f ds_bl)))
  dts_nil)
  (dts_cons (dt_if (DW.bb (dw_or (db_cmp (op_neD hu0) ru_ne (DS.mm (ds_ix ix_seq ru_ix (DR.mm (dr_var (pv 1))) (DS.mm ds_int) (fun _ _ => rfl))) (DS.mm (DF.s (df_call (Fok.cal (ok__law_short E)) (hr.mono (by omega)) (by rfl) tkF (dl_cons (m := true) (DS.mm (ds_var (pv 0))) dl_nil)))) (nomark _)) (dw_or1 (db_cmp (op_neD hu0) ru_ne (DS.mm (DF.s (df_call (Fok.cal (ok__law_short E)) (hr.mono (by omega)) (by rfl) tkF (dl_cons (m := true) (DS.mm (ds_ix ix_seq ru_ix (DR.mm (dr_var (pv 1))) (DS.mm ds_int) (fun _ _ => rfl))) dl_nil)))) (DS.mm (ds_ix ix_seq ru_ix (DR.mm (dr_var (pv 1))) (DS.mm ds_int) (fun _ _ => rfl))) (nomark _)))))
  (dts_one (dt_ret (DS.f ds_bl)))
  dts_nil)
  (dts_cons (dt_if (DW.bb (dw_and (db_cmp op_gt ru_iiB (DS.mm (ds_callB ru_len call_len (by rfl) E.fr_len bt_len (dl_cons (m := false) (DS.mm (ds_ix ix_seq ru_ix (DR.mm (dr_var (pv 1))) (DS.mm ds_int) (fun _ _ => rfl))) dl_nil))) (DS.mm ds_int) (nomark _)) (dw_and1 (db_cmp (op_neD hu0) ru_ne (DS.mm (DF.s (df_call (Fok.cal (ok__law_short E)) (hr.mono (by omega)) (by rfl) tkF (dl_cons (m := true) (DS.mm (DF.s (df_op op_addS ru_addS (DS.mm (ds_ix ix_seq ru_ix (DR.mm (dr_var (pv 1))) (DS.mm ds_int) (fun _ _ => rfl))) (DS.mm (ds_ix ix_seq ru_ix (DR.mm (dr_var (pv 1))) (DS.mm ds_int) (fun _ _ => rfl)))))) dl_nil)))) (DS.mm (DF.s (df_op op_addS ru_addS (DS.mm (ds_ix ix_seq ru_ix (DR.mm (dr_var (pv 1))) (DS.mm ds_int) (fun _ _ => rfl))) (DS.mm (ds_ix ix_seq ru_ix (DR.mm (dr_var (pv 1))) (DS.mm ds_int) (fun _ _ => rfl)))))) (nomark _)))))
  (dts_one (dt_ret (DS.f ds_bl)))
  dts_nil)
  (dts_one (dt_ret (DS.f (ds_cmp (op_eqD hu0) ru_eq (DS.mm (DF.s (df_call (Fok.cal (ok__law_short E)) (hr.mono (by omega)) (by rfl) tkF (dl_cons (m := true) (DS.mm (DF.s (df_op op_addS ru_addS (DS.mm (DF.s (df_op op_addS ru_addS (DS.mm (ds_ix ix_seq ru_ix (DR.mm (dr_var (pv 1))) (DS.mm ds_int) (fun _ _ => rfl))) (DS.mm (ds_ix ix_seq ru_ix (DR.mm (dr_var (pv 1))) (DS.mm ds_int) (fun _ _ => rfl)))))) (DS.mm (DF.s (df_call (Fok.cal (ok__law_back E)) (hr.mono (by omega)) (by rfl) tkF (dl_cons (m := true) (DS.mm (ds_ix ix_seq ru_ix (DR.mm (dr_var (pv 1))) (DS.mm ds_int) (fun _ _ => rfl))) dl_nil))))))) dl_nil)))) (DS.mm (ds_ix ix_seq ru_ix (DR.mm (dr_var (pv 1))) (DS.mm ds_int) (fun _ _ => rfl))) (nomark _))))))))
theorem sc_is_told : FnScope ["told", "word", "count"] ["told", "word", "count"] (defScope (top 5)) := ⟨rfl, rfl, rfl, by decide +kernel, rfl, by decide +kernel, by decide +kernel⟩
theorem ok_is_told {P : Program} {w : World} {K : PySem.W.Frag} {mg : Str → Option Value} {base : Heap} {cls : Nat → Option Value} (E : Fx K mg) : Fok P w K mg base cls 1 "is_told" 3 [] d_is_told :=
  fok_of (k := 0) E.at_is_told sc_is_told rfl (fun _ _ _ _ _ _ us hl => match us, hl with | [_, _, _], _ => rfl) fun f cdv A0 outer s H E' hr A hA => by
        subst hA
        have hu := room_u hr
        have hu0 := hr.units
        delta b_is_told
        exact (dts_cons (dt_if (DW.bb (dw_or (db_not (db_tru (DS.mm (ds_isi (by rfl) E.fr_isinstance (by rfl) E.fr_tuple bt_tuple (by decide) (DR.mm (dr_var (pv 0))))))) (dw_or1 (db_cmp (op_neD hu0) ru_ne (DS.mm (ds_callB ru_len call_len (by rfl) E.fr_len bt_len (dl_cons (m := false) (DR.mm (dr_var (pv 0))) dl_nil))) (DR.mm (dr_var (pv 2))) (nomark _)))))
  (dts_one (dt_ret (DS.f ds_bl)))
  dts_nil)
  (dts_one (dt_ret (DS.f (ds_and (ds_isi (by rfl) E.fr_isinstance (by rfl) E.fr_str bt_str (by decide) (DS.mm (ds_ix ix_seq ru_ix (DR.mm (dr_var (pv 0))) (DS.mm ds_int) (fun _ _ => rfl)))) (ds_one (ds_cmp (op_eqD hu0) ru_eq (DS.mm (ds_ix ix_seq ru_ix (DR.mm (dr_var (pv 0))) (DS.mm ds_int) (fun _ _ => rfl))) (DR.mm (dr_var (pv 1))) (nomark _))))))))
theorem sc_is_whole : FnScope ["value"] ["value"] (defScope (top 4)) := ⟨rfl, rfl, rfl, by decide +kernel, rfl, by decide +kernel, by decide +kernel⟩
theorem ok_is_whole {P : Program} {w : World} {K : PySem.W.Frag} {mg : Str → Option Value} {base : Heap} {cls : Nat → Option Value} (E : Fx K mg) : Fok P w K mg base cls 1 "is_whole" 1 [] d_is_whole :=
  fok_of (k := 0) E.at_is_whole sc_is_whole rfl (fun _ _ _ _ _ _ us hl => match us, hl with | [_], _ => rfl) fun f cdv A0 outer s H E' hr A hA => by
        subst hA
        have hu := room_u hr
        have hu0 := hr.units
        delta b_is_whole
        exact (dts_one (dt_ret (DS.f (ds_and (ds_isi (by rfl) E.fr_isinstance (by rfl) E.fr_int bt_int (by decide) (DR.mm (dr_var (pv 0)))) (ds_one (ds_not (DS.mm (ds_isi (by rfl) E.fr_isinstance (by rfl) E.fr_bool bt_bool (by decide) (DR.mm (dr_var (pv 0)))))))))))
theorem sc_is_word : FnScope ["value", "name", "sign", "letter"] ["value"] (defScope (top 11)) := ⟨rfl, rfl, rfl, by decide +kernel, rfl, by decide +kernel, by decide +kernel⟩
theorem ok_is_word {P : Program} {w : World} {K : PySem.W.Frag} {mg : Str → Option Value} {base : Heap} {cls : Nat → Option Value} (E : Fx K mg) : Fok P w K mg base cls 2 "is_word" 1 [] d_is_word :=
  fok_of (k := 1) E.at_is_word sc_is_word rfl (fun _ _ _ _ _ _ us hl => match us, hl with | [_], _ => rfl) fun f cdv A0 outer s H E' hr A hA => by
        subst hA
        have hu := room_u hr
        have hu0 := hr.units
        delta b_is_word
        exact (dts_cons (dt_if (DW.bb (dw_or (db_not (db_tru (DS.mm (ds_isi (by rfl) E.fr_isinstance (by rfl) E.fr_tuple bt_tuple (by decide) (DR.mm (dr_var (pv 0))))))) (dw_or1 (db_cmp (op_inX hu) ru_in (DS.mm ds_bl) (DS.mm (DF.s (df_lc (own := [("letter", 3)]) (by rfl) sc_is_word.nd  (di_seq (ds_var (pv 0))) (blkOk_by (by kernel_rfl)) (by decide) (fun s H C cl fp A' => (dg_name (i := 3) sc_is_word.nd (by rfl) (by first | exact .inl rfl | exact .inr rfl))) (fun s H C cl fp A' => dts_yes) (fun s H C cl fp A' => (ds_and (ds_isi (by rfl) E.fr_isinstance (by rfl) E.fr_tuple bt_tuple (by decide) (DR.mm (dr_var (pv 3)))) (ds_one (ds_cmp (op_eqD hu0) ru_eq (DS.mm (ds_callB ru_len call_len (by rfl) E.fr_len bt_len (dl_cons (m := false) (DR.mm (dr_var (pv 3))) dl_nil))) (DS.mm ds_int) (nomark _)))))))) (by rfl)))))
  (dts_one (dt_ret (DS.f ds_bl)))
  dts_nil)
  (dts_one (dt_ret (DS.f (ds_cmp (op_niX hu) ru_ni (DS.mm ds_bl) (DS.mm (DF.s (df_lc (own := [("name", 1), ("sign", 2)]) (by rfl) sc_is_word.nd  (di_seq (ds_var (pv 0))) (blkOk_by (by kernel_rfl)) (by decide) (fun s H C cl fp A' => (dg_tup (n := 2) (by rfl) (dgs_cons (dg_name (i := 1) sc_is_word.nd (by rfl) (by first | exact .inl rfl | exact .inr rfl)) (dgs_cons (dg_name (i := 2) sc_is_word.nd (by rfl) (by first | exact .inl rfl | exact .inr rfl)) dgs_nil)))) (fun s H C cl fp A' => dts_yes) (fun s H C cl fp A' => (ds_and (ds_isi (by rfl) E.fr_isinstance (by rfl) E.fr_str bt_str (by decide) (DR.mm (dr_var (pv 1)))) (ds_and (DF.s (df_call (Fok.cal (ok_is_whole E)) (hr.mono (by omega)) (by rfl) tk0 (dl_cons (m := true) (DS.mm (ds_var (pv 2))) dl_nil))) (ds_one (ds_cmp (op_inX hu) ru_in (DR.mm (dr_var (pv 2))) (DS.mm (ds_tup (dl_cons (m := true) (DS.mm ds_int) (dl_cons (m := true) (DS.mm (ds_un un_neg ru_neg (DS.mm ds_int))) dl_nil)))) (by rfl))))))))) (by rfl))))))
theorem sc_read_back : FnScope ["word", "name", "sign"] ["word"] (defScope (top 8)) := ⟨rfl, rfl, rfl, by decide +kernel, rfl, by decide +kernel, by decide +kernel⟩
theorem ok_read_back {P : Program} {w : World} {K : PySem.W.Frag} {mg : Str → Option Value} {base : Heap} {cls : Nat → Option Value} (E : Fx K mg) : Fok P w K mg base cls 1 "read_back" 1 [] d_read_back :=
  fok_of (k := 0) E.at_read_back sc_read_back rfl (fun _ _ _ _ _ _ us hl => match us, hl with | [_], _ => rfl) fun f cdv A0 outer s H E' hr A hA => by
        subst hA
        have hu := room_u hr
        have hu0 := hr.units
        delta b_read_back
        exact (dts_one (dt_ret (DS.f (ds_tuple (by rfl) (by rfl) E.fr_tuple (dl_cons (m := false) (DS.mm (DF.s (df_lc (own := [("name", 1), ("sign", 2)]) (by rfl) sc_read_back.nd  (di_seq (DF.s (df_rev (DR.mm (dr_var (pv 0)))))) (blkOk_by (by kernel_rfl)) (by decide) (fun s H C cl fp A' => (dg_tup (n := 2) (by rfl) (dgs_cons (dg_name (i := 1) sc_read_back.nd (by rfl) (by first | exact .inl rfl | exact .inr rfl)) (dgs_cons (dg_name (i := 2) sc_read_back.nd (by rfl) (by first | exact .inl rfl | exact .inr rfl)) dgs_nil)))) (fun s H C cl fp A' => dts_yes) (fun s H C cl fp A' => (ds_tup (dl_cons (m := true) (DS.mm (ds_var (pv 1))) (dl_cons (m := true) (DS.mm (ds_un un_neg ru_neg (DR.mm (dr_var (pv 2))))) dl_nil))))))) dl_nil)))))
theorem sc_judge_least : FnScope ["word", "told", "part"] ["word", "told"] (defScope (top 13)) := ⟨rfl, rfl, rfl, by decide +kernel, rfl, by decide +kernel, by decide +kernel⟩
theorem ok_judge_least {P : Program} {w : World} {K : PySem.W.Frag} {mg : Str → Option Value} {base : Heap} {cls : Nat → Option Value} (E : Fx K mg) : Fok P w K mg base cls 3 "judge_least" 2 [] d_judge_least :=
  fok_of (k := 2) E.at_judge_least sc_judge_least rfl (fun _ _ _ _ _ _ us hl => match us, hl with | [_, _], _ => rfl) fun f cdv A0 outer s H E' hr A hA => by
        subst hA
        have hu := room_u hr
        have hu0 := hr.units
        delta b_judge_least
        exact (dts_cons (dt_expr (DS.mm (DF.s (df_call (Fok.cal (ok_check_word E)) (hr.mono (by omega)) (by rfl) tkF (dl_cons (m := true) (DS.mm (ds_var (pv 0))) dl_nil)))))
  (dts_cons (dt_if (DW.bb (dw_or (db_not (db_tru (DS.mm (DF.s (df_call (Fok.cal (ok_is_told E)) (hr.mono (by omega)) (by rfl) tkF (dl_cons (m := true) (DS.mm (ds_var (pv 1))) (dl_cons (m := true) (DS.mm ds_str) (dl_cons (m := true) (DS.mm ds_int) dl_nil)))))))) (dw_or1 (db_cmp (op_inX hu) ru_in (DS.mm ds_bl) (DS.mm (DF.s (df_lc (own := [("part", 2)]) (by rfl) sc_judge_least.nd  (di_seq (DF.s (df_slc (DR.mm (dr_var (pv 1))) (do_some (DS.mm ds_int)) do_none))) (blkOk_by (by kernel_rfl)) (by decide) (fun s H C cl fp A' => (dg_name (i := 2) sc_judge_least.nd (by rfl) (by first | exact .inl rfl | exact .inr rfl))) (fun s H C cl fp A' => dts_yes) (fun s H C cl fp A' => (DF.s (df_call (Fok.cal (ok_is_word E)) (hr.mono (by omega)) (by rfl) tk0 (dl_cons (m := true) (DS.mm (ds_var (pv 2))) dl_nil))))))) (by rfl)))))
  (dts_one (dt_ret (DS.f ds_bl)))
  dts_nil)
  (dts_cons (dt_if (DW.bb (dw_or (db_cmp (op_neD hu0) ru_ne (DS.mm (ds_ix ix_seq ru_ix (DR.mm (dr_var (pv 1))) (DS.mm ds_int) (fun _ _ => rfl))) (DS.mm (DF.s (df_call (Fok.cal (ok_shortened E)) (hr.mono (by omega)) (by rfl) tkF (dl_cons (m := true) (DS.mm (ds_var (pv 0))) dl_nil)))) (nomark _)) (dw_or1 (db_cmp (op_neD hu0) ru_ne (DS.mm (DF.s (df_call (Fok.cal (ok_shortened E)) (hr.mono (by omega)) (by rfl) tkF (dl_cons (m := true) (DS.mm (ds_ix ix_seq ru_ix (DR.mm (dr_var (pv 1))) (DS.mm ds_int) (fun _ _ => rfl))) dl_nil)))) (DS.mm (ds_ix ix_seq ru_ix (DR.mm (dr_var (pv 1))) (DS.mm ds_int) (fun _ _ => rfl))) (nomark _)))))
  (dts_one (dt_ret (DS.f ds_bl)))
  dts_nil)
  (dts_cons (dt_if (DW.bb (dw_and (db_cmp op_gt ru_iiB (DS.mm (ds_callB ru_len call_len (by rfl) E.fr_len bt_len (dl_cons (m := false) (DS.mm (ds_ix ix_seq ru_ix (DR.mm (dr_var (pv 1))) (DS.mm ds_int) (fun _ _ => rfl))) dl_nil))) (DS.mm ds_int) (nomark _)) (dw_and1 (db_cmp (op_eqD hu0) ru_eq (DS.mm (ds_ix ix_seq ru_ix (DS.mm (ds_ix ix_seq ru_ix (DR.mm (dr_var (pv 1))) (DS.mm ds_int) (fun _ _ => rfl))) (DS.mm ds_int) (fun _ _ => rfl))) (DS.mm (ds_tup (dl_cons (m := true) (DS.mm (ds_ix ix_seq ru_ix (DS.mm (ds_ix ix_seq ru_ix (DS.mm (ds_ix ix_seq ru_ix (DR.mm (dr_var (pv 1))) (DS.mm ds_int) (fun _ _ => rfl))) (DS.mm (ds_un un_neg ru_neg (DS.mm ds_int))) (fun _ _ => rfl))) (DS.mm ds_int) (fun _ _ => rfl))) (dl_cons (m := true) (DS.mm (ds_un un_neg ru_neg (DS.mm (ds_ix ix_seq ru_ix (DS.mm (ds_ix ix_seq ru_ix (DS.mm (ds_ix ix_seq ru_ix (DR.mm (dr_var (pv 1))) (DS.mm ds_int) (fun _ _ => rfl))) (DS.mm (ds_un un_neg ru_neg (DS.mm ds_int))) (fun _ _ => rfl))) (DS.mm ds_int) (fun _ _ => rfl))))) dl_nil)))) (nomark _)))))
  (dts_one (dt_ret (DS.f ds_bl)))
  dts_nil)
  (dts_one (dt_ret (DS.f (ds_cmp (op_eqD hu0) ru_eq (DS.mm (DF.s (df_call (Fok.cal (ok_shortened E)) (hr.mono (by omega)) (by rfl) tkF (dl_cons (m := true) (DS.mm (DF.s (df_op op_addS ru_addS (DS.mm (DF.s (df_op op_addS ru_addS (DS.mm (ds_ix ix_seq ru_ix (DR.mm (dr_var (pv 1))) (DS.mm ds_int) (fun _ _ => rfl))) (DS.mm (ds_ix ix_seq ru_ix (DR.mm (dr_var (pv 1))) (DS.mm ds_int) (fun _ _ => rfl)))))) (DS.mm (DF.s (df_call (Fok.cal (ok_read_back E)) (hr.mono (by omega)) (by rfl) tkF (dl_cons (m := true) (DS.mm (ds_ix ix_seq ru_ix (DR.mm (dr_var (pv 1))) (DS.mm ds_int) (fun _ _ => rfl))) dl_nil))))))) dl_nil)))) (DS.mm (ds_ix ix_seq ru_ix (DR.mm (dr_var (pv 1))) (DS.mm ds_int) (fun _ _ => rfl))) (nomark _)))))))))
theorem sc__law_ints : FnScope ["value", "found", "part", "number"] ["value"] (defScope (top 21)) := ⟨rfl, rfl, rfl, by decide +kernel, rfl, by decide +kernel, by decide +kernel⟩
theorem ok__law_ints {P : Program} {w : World} {K : PySem.W.Frag} {mg : Str → Option Value} {base : Heap} (E : Fx K mg) : ∀ (n : Nat) (cls : Nat → Option Value), Fok P w K mg base cls (0 + n) "_law_ints" 1 [] (d__law_ints n)
  | 0, cls => fok_err E.at__law_ints (ps := ["value"]) rfl (fun _ _ _ _ _ _ us hl => match us, hl with | [_], _ => rfl)
  | n + 1, cls => by
    have ih := ok__law_ints (P := P) (w := w) (base := base) E n
    exact fok_of (k := 0 + n) E.at__law_ints sc__law_ints rfl (fun _ _ _ _ _ _ us hl => match us, hl with | [_], _ => rfl) fun f cdv A0 outer s H E' hr A hA => by
        subst hA
        have hu := room_u hr
        have hu0 := hr.units
        delta b__law_ints
        exact (dts_cons (dt_if (DW.bb (dw_or (db_tru (DS.mm (ds_isi (by rfl) E.fr_isinstance (by rfl) E.fr_bool bt_bool (by decide) (DR.mm (dr_var (pv 0)))))) (dw_or1 (db_not (db_tru (DS.mm (ds_isi2 (by rfl) E.fr_isinstance (by rfl) E.fr_int bt_int (by rfl) E.fr_tuple bt_tuple (by decide) (DR.mm (dr_var (pv 0))))))))))
  (dts_one (dt_ret (df_lst (dl_nil (m := true)))))
  dts_nil)
  (dts_cons (dt_if (db_tru (DS.mm (ds_isi (by rfl) E.fr_isinstance (by rfl) E.fr_int bt_int (by decide) (DR.mm (dr_var (pv 0))))))
  (dts_one (dt_ret (df_lst (dl_cons (m := true) (DS.mm (ds_var (pv 0))) dl_nil))))
  dts_nil)
  (dts_cons (dt_set (i := 1) sc__law_ints.nd (by rfl) (by first | exact .inl rfl | exact .inr rfl) (df_lst (dl_nil (m := true))))
  (dts_cons (dt_for (passes_of (by rfl)) (by rfl) (di_seq (ds_var (pv 0))) (dg_name (i := 2) sc__law_ints.nd (by rfl) (by first | exact .inl rfl | exact .inr rfl))
  (dts_one (dt_set (i := 1) sc__law_ints.nd (by rfl) (by first | exact .inl rfl | exact .inr rfl) (df_op op_addS ru_addS (DS.mm (ds_var (pv 1))) (DS.mm (DF.s (df_lc (own := [("number", 3)]) (by rfl) sc__law_ints.nd  (di_seq (DF.s (df_call (Fok.cal (ih _)) (hr.mono (by omega)) (by rfl) tkF (dl_cons (m := true) (DS.mm (ds_var (pv 2))) dl_nil)))) (blkOk_by (by kernel_rfl)) (by decide) (fun s H C cl fp A' => (dg_name (i := 3) sc__law_ints.nd (by rfl) (by first | exact .inl rfl | exact .inr rfl))) (fun s H C cl fp A' => (dts_if (db_cmp (op_niX hu) ru_ni (DR.mm (dr_var (pv 3))) (DR.mm (dr_var (pv 1))) (by rfl)))) (fun s H C cl fp A' => (ds_var (pv 3))))))))))
  (dts_one (dt_retV (pv 1)))))))
theorem sc__law_exchanged : FnScope ["value", "one", "other", "part"] ["value", "one", "other"] (defScope (top 22)) := ⟨rfl, rfl, rfl, by decide +kernel, rfl, by decide +kernel, by decide +kernel⟩
theorem ok__law_exchanged {P : Program} {w : World} {K : PySem.W.Frag} {mg : Str → Option Value} {base : Heap} (E : Fx K mg) : ∀ (n : Nat) (cls : Nat → Option Value), Fok P w K mg base cls (0 + n) "_law_exchanged" 3 [] (d__law_exchanged n)
  | 0, cls => fok_err E.at__law_exchanged (ps := ["value", "one", "other"]) rfl (fun _ _ _ _ _ _ us hl => match us, hl with | [_, _, _], _ => rfl)
  | n + 1, cls => by
    have ih := ok__law_exchanged (P := P) (w := w) (base := base) E n
    exact fok_of (k := 0 + n) E.at__law_exchanged sc__law_exchanged rfl (fun _ _ _ _ _ _ us hl => match us, hl with | [_, _, _], _ => rfl) fun f cdv A0 outer s H E' hr A hA => by
        subst hA
        have hu := room_u hr
        have hu0 := hr.units
        delta b__law_exchanged
        exact (dts_cons (dt_if (DW.bb (dw_or (db_tru (DS.mm (ds_isi (by rfl) E.fr_isinstance (by rfl) E.fr_bool bt_bool (by decide) (DR.mm (dr_var (pv 0)))))) (dw_or1 (db_not (db_tru (DS.mm (ds_isi2 (by rfl) E.fr_isinstance (by rfl) E.fr_int bt_int (by rfl) E.fr_tuple bt_tuple (by decide) (DR.mm (dr_var (pv 0))))))))))
  (dts_one (dt_retV (pv 0)))
  dts_nil)
  (dts_cons (dt_if (db_tru (DS.mm (ds_isi (by rfl) E.fr_isinstance (by rfl) E.fr_int bt_int (by decide) (DR.mm (dr_var (pv 0))))))
  (dts_one (dt_ret (DS.f (ds_if (db_cmp (op_eqD hu0) ru_eq (DR.mm (dr_var (pv 0))) (DR.mm (dr_var (pv 1))) (nomark _)) (ds_var (pv 2)) (ds_if (db_cmp (op_eqD hu0) ru_eq (DR.mm (dr_var (pv 0))) (DR.mm (dr_var (pv 2))) (nomark _)) (ds_var (pv 1)) (ds_var (pv 0)))))))
  dts_nil)
  (dts_one (dt_ret (DS.f (ds_tuple (by rfl) (by rfl) E.fr_tuple (dl_cons (m := false) (DS.mm (DF.s (df_lc (own := [("part", 3)]) (by rfl) sc__law_exchanged.nd  (di_seq (ds_var (pv 0))) (blkOk_by (by kernel_rfl)) (by decide) (fun s H C cl fp A' => (dg_name (i := 3) sc__law_exchanged.nd (by rfl) (by first | exact .inl rfl | exact .inr rfl))) (fun s H C cl fp A' => dts_yes) (fun s H C cl fp A' => (DF.s (df_call (Fok.cal (ih _)) (hr.mono (by omega)) (by rfl) tk0 (dl_cons (m := true) (DS.mm (ds_var (pv 3))) (dl_cons (m := true) (DS.mm (ds_var (pv 1))) (dl_cons (m := true) (DS.mm (ds_var (pv 2))) dl_nil))))))))) dl_nil)))))))
theorem sc__law_cut : FnScope ["state", "value", "k", "at", "ways", "part"] ["state", "value"] (defScope (top 23)) := ⟨rfl, rfl, rfl, by decide +kernel, rfl, by decide +kernel, by decide +kernel⟩
theorem ok__law_cut {P : Program} {w : World} {K : PySem.W.Frag} {mg : Str → Option Value} {base : Heap} (E : Fx K mg) : ∀ (n : Nat) (cls : Nat → Option Value), Fok P w K mg base cls (1 + n) "_law_cut" 2 [0] (d__law_cut n)
  | 0, cls => fok_err E.at__law_cut (ps := ["state", "value"]) rfl (fun _ _ _ _ _ _ us hl => match us, hl with | [_, _], _ => rfl)
  | n + 1, cls => by
    have ih := ok__law_cut (P := P) (w := w) (base := base) E n
    exact fok_of (k := 1 + n) E.at__law_cut sc__law_cut rfl (fun _ _ _ _ _ _ us hl => match us, hl with | [_, _], _ => rfl) fun f cdv A0 outer s H E' hr A hA => by
        subst hA
        have hu := room_u hr
        have hu0 := hr.units
        delta b__law_cut
        exact (dts_cons (dt_if (DW.bb (dw_or (db_not (db_tru (DS.mm (ds_isi (by rfl) E.fr_isinstance (by rfl) E.fr_tuple bt_tuple (by decide) (DR.mm (dr_var (pv 1))))))) (dw_or1 (db_cmp (op_eqD hu0) ru_eq (DR.mm (dr_var (pv 1))) (DS.mm (ds_tup (dl_nil (m := true)))) (nomark _)))))
  (dts_one (dt_retV (pv 1)))
  dts_nil)
  (dts_cons (dt_if (db_cmp (op_neD hu0) ru_ne (DS.mm (DF.s (df_lc (own := [("part", 5)]) (by rfl) sc__law_cut.nd  (di_seq (ds_var (pv 1))) (blkOk_by (by kernel_rfl)) (by decide) (fun s H C cl fp A' => (dg_name (i := 5) sc__law_cut.nd (by rfl) (by first | exact .inl rfl | exact .inr rfl))) (fun s H C cl fp A' => (dts_if (db_not (db_tru (DS.mm (ds_isi (by rfl) E.fr_isinstance (by rfl) E.fr_str bt_str (by decide) (DR.mm (dr_var (pv 5))))))))) (fun s H C cl fp A' => (ds_var (pv 5)))))) (DS.mm (DF.s (df_lst (dl_nil (m := true))))) (nomark _))
  (dts_cons (dt_set (i := 2) sc__law_cut.nd (by rfl) (by first | exact .inl rfl | exact .inr rfl) (df_callR (Fok.cal (ok__law_next E)) (hr.mono (by omega)) (by rfl) tkF (pv 0) (dl_cons (m := true) (DS.mm (ds_callB ru_len call_len (by rfl) E.fr_len bt_len (dl_cons (m := false) (DR.mm (dr_var (pv 1))) dl_nil))) dl_nil)))
  (dts_one (dt_ret (df_op op_addS ru_addS (DS.mm (DF.s (df_op op_addS ru_addS (DS.mm (DF.s (df_slc (DR.mm (dr_var (pv 1))) do_none (do_some (DR.mm (dr_var (pv 2))))))) (DS.mm (ds_tup (dl_cons (m := true) (DS.mm (DF.s (df_callR (Fok.cal (ih _)) (hr.mono (by omega)) (by rfl) tkF (pv 0) (dl_cons (m := true) (DS.mm (ds_ix ix_seq ru_ix (DR.mm (dr_var (pv 1))) (DR.mm (dr_var (pv 2))) (fun _ _ => rfl))) dl_nil)))) dl_nil)))))) (DS.mm (DF.s (df_slc (DR.mm (dr_var (pv 1))) (do_some (DS.mm (DF.s (df_op op_addS ru_addS (DR.mm (dr_var (pv 2))) (DS.mm ds_int))))) do_none)))))))
  dts_nil)
  (dts_cons (dt_set (i := 2) sc__law_cut.nd (by rfl) (by first | exact .inl rfl | exact .inr rfl) (df_callR (Fok.cal (ok__law_next E)) (hr.mono (by omega)) (by rfl) tkF (pv 0) (dl_cons (m := true) (DS.mm (ds_callB ru_len call_len (by rfl) E.fr_len bt_len (dl_cons (m := false) (DR.mm (dr_var (pv 1))) dl_nil))) dl_nil)))
  (dts_cons (dt_set (i := 3) sc__law_cut.nd (by rfl) (by first | exact .inl rfl | exact .inr rfl) (df_callR (Fok.cal (ok__law_next E)) (hr.mono (by omega)) (by rfl) tkF (pv 0) (dl_cons (m := true) (DS.mm (DF.s (df_op op_addS ru_addS (DS.mm (ds_callB ru_len call_len (by rfl) E.fr_len bt_len (dl_cons (m := false) (DS.mm (ds_ix ix_seq ru_ix (DR.mm (dr_var (pv 1))) (DR.mm (dr_var (pv 2))) (fun _ _ => rfl))) dl_nil))) (DS.mm ds_int)))) dl_nil)))
  (dts_cons (dt_set (i := 4) sc__law_cut.nd (by rfl) (by first | exact .inl rfl | exact .inr rfl) (df_lst (dl_cons (m := true) (DS.mm (DF.s (df_op op_addS ru_addS (DS.mm (DF.s (df_op op_addS ru_addS (DS.mm (DF.s (df_slc (DR.mm (dr_var (pv 1))) do_none (do_some (DR.mm (dr_var (pv 2))))))) (DS.mm (ds_tup (dl_cons (m := true) (DS.mm (DF.s (df_slc (DS.mm (ds_ix ix_seq ru_ix (DR.mm (dr_var (pv 1))) (DR.mm (dr_var (pv 2))) (fun _ _ => rfl))) do_none (do_some (DR.mm (dr_var (pv 3))))))) (dl_cons (m := true) (DS.mm (DF.s (df_slc (DS.mm (ds_ix ix_seq ru_ix (DR.mm (dr_var (pv 1))) (DR.mm (dr_var (pv 2))) (fun _ _ => rfl))) (do_some (DR.mm (dr_var (pv 3)))) do_none))) dl_nil))))))) (DS.mm (DF.s (df_slc (DR.mm (dr_var (pv 1))) (do_some (DS.mm (DF.s (df_op op_addS ru_addS (DR.mm (dr_var (pv 2))) (DS.mm ds_int))))) do_none)))))) (dl_cons (m := true) (DS.mm (DF.s (df_op op_addS ru_addS (DS.mm (DF.s (df_op op_addS ru_addS (DS.mm (DF.s (df_slc (DR.mm (dr_var (pv 1))) do_none (do_some (DR.mm (dr_var (pv 2))))))) (DS.mm (ds_tup (dl_cons (m := true) (DS.mm (ds_join (DS.mm ds_str) (DS.mm (DF.s (df_slc (DR.mm (dr_var (pv 1))) (do_some (DR.mm (dr_var (pv 2)))) (do_some (DS.mm (DF.s (df_op op_addS ru_addS (DR.mm (dr_var (pv 2))) (DS.mm ds_int)))))))))) dl_nil)))))) (DS.mm (DF.s (df_slc (DR.mm (dr_var (pv 1))) (do_some (DS.mm (DF.s (df_op op_addS ru_addS (DR.mm (dr_var (pv 2))) (DS.mm ds_int))))) do_none)))))) dl_nil))))
  (dts_cons (dt_set (i := 4) sc__law_cut.nd (by rfl) (by first | exact .inl rfl | exact .inr rfl) (df_op op_addS ru_addS (DR.mm (dr_var (pv 4))) (DS.mm (DF.s (df_lst (dl_cons (m := true) (DS.mm (ds_tup (dl_cons (m := true) (DS.mm (ds_join (DS.mm ds_str) (DR.mm (dr_var (pv 1))))) dl_nil))) (dl_cons (m := true) (DS.mm (ds_tuple (by rfl) (by rfl) E.fr_tuple (dl_cons (m := false) (DS.mm (ds_join (DS.mm ds_str) (DR.mm (dr_var (pv 1))))) dl_nil))) (dl_cons (m := true) (DS.mm (DF.s (df_op op_addS ru_addS (DS.mm (DF.s (df_op op_addS ru_addS (DS.mm (DF.s (df_slc (DR.mm (dr_var (pv 1))) do_none (do_some (DR.mm (dr_var (pv 2))))))) (DS.mm (ds_tup (dl_cons (m := true) (DS.mm ds_str) dl_nil)))))) (DS.mm (DF.s (df_slc (DR.mm (dr_var (pv 1))) (do_some (DR.mm (dr_var (pv 2)))) do_none)))))) (dl_cons (m := true) (DS.mm (DF.s (df_op op_addS ru_addS (DS.mm (DF.s (df_op op_addS ru_addS (DS.mm (DF.s (df_slc (DR.mm (dr_var (pv 1))) do_none (do_some (DR.mm (dr_var (pv 2))))))) (DS.mm (DF.s (df_rev (DS.mm (DF.s (df_slc (DR.mm (dr_var (pv 1))) (do_some (DR.mm (dr_var (pv 2)))) (do_some (DS.mm (DF.s (df_op op_addS ru_addS (DR.mm (dr_var (pv 2))) (DS.mm ds_int)))))))))))))) (DS.mm (DF.s (df_slc (DR.mm (dr_var (pv 1))) (do_some (DS.mm (DF.s (df_op op_addS ru_addS (DR.mm (dr_var (pv 2))) (DS.mm ds_int))))) do_none)))))) dl_nil)))))))))
  (dts_one (dt_ret (DS.f (ds_ix ix_seq ru_ix (DS.mm (ds_var (pv 4))) (DS.mm (DF.s (df_callR (Fok.cal (ok__law_next E)) (hr.mono (by omega)) (by rfl) tkF (pv 0) (dl_cons (m := true) (DS.mm (ds_callB ru_len call_len (by rfl) E.fr_len bt_len (dl_cons (m := false) (DR.mm (dr_var (pv 4))) dl_nil))) dl_nil)))) (fun _ _ => rfl)))))))))))
theorem sc__law_turned_about : FnScope ["state", "told", "numbers", "pick", "one", "other", "k", "j", "part"] ["state", "told"] (defScope (top 24)) := ⟨rfl, rfl, rfl, by decide +kernel, rfl, by decide +kernel, by decide +kernel⟩
theorem ok__law_turned_about {P : Program} {w : World} {K : PySem.W.Frag} {mg : Str → Option Value} {base : Heap} {cls : Nat → Option Value} (E : Fx K mg) : Fok P w K mg base cls 42 "_law_turned_about" 2 [0] d__law_turned_about :=
  fok_of (k := 41) E.at__law_turned_about sc__law_turned_about rfl (fun _ _ _ _ _ _ us hl => match us, hl with | [_, _], _ => rfl) fun f cdv A0 outer s H E' hr A hA => by
        subst hA
        have hu := room_u hr
        have hu0 := hr.units
        delta b__law_turned_about
        exact (dts_cons (dt_set (i := 2) sc__law_turned_about.nd (by rfl) (by first | exact .inl rfl | exact .inr rfl) (df_call (Fok.cal (ok__law_ints E 40 _)) (hr.mono (by omega)) (by rfl) tkF (dl_cons (m := true) (DS.mm (ds_var (pv 1))) dl_nil)))
  (dts_cons (dt_set (i := 3) sc__law_turned_about.nd (by rfl) (by first | exact .inl rfl | exact .inr rfl) (df_callR (Fok.cal (ok__law_next E)) (hr.mono (by omega)) (by rfl) tkF (pv 0) (dl_cons (m := true) (DS.mm ds_int) dl_nil)))
  (dts_cons (dt_if (DW.bb (dw_and (db_cmp op_lt ru_iiB (DR.mm (dr_var (pv 3))) (DS.mm ds_int) (nomark _)) (dw_and1 (db_cmp (op_neD hu0) ru_ne (DR.mm (dr_var (pv 2))) (DS.mm (DF.s (df_lst (dl_nil (m := true))))) (nomark _)))))
  (dts_cons (dt_set (i := 4) sc__law_turned_about.nd (by rfl) (by first | exact .inl rfl | exact .inr rfl) (DS.f (ds_ix ix_seq ru_ix (DS.mm (ds_var (pv 2))) (DS.mm (DF.s (df_callR (Fok.cal (ok__law_next E)) (hr.mono (by omega)) (by rfl) tkF (pv 0) (dl_cons (m := true) (DS.mm (ds_callB ru_len call_len (by rfl) E.fr_len bt_len (dl_cons (m := false) (DR.mm (dr_var (pv 2))) dl_nil))) dl_nil)))) (fun _ _ => rfl))))
  (dts_cons (dt_set (i := 5) sc__law_turned_about.nd (by rfl) (by first | exact .inl rfl | exact .inr rfl) (df_if (db_cmp (op_eqD hu0) ru_eq (DR.mm (dr_var (pv 3))) (DS.mm ds_int) (nomark _)) (df_op op_addS ru_addS (DR.mm (dr_var (pv 4))) (DS.mm ds_int)) (DS.f (ds_ix ix_seq ru_ix (DS.mm (ds_var (pv 2))) (DS.mm (DF.s (df_callR (Fok.cal (ok__law_next E)) (hr.mono (by omega)) (by rfl) tkF (pv 0) (dl_cons (m := true) (DS.mm (ds_callB ru_len call_len (by rfl) E.fr_len bt_len (dl_cons (m := false) (DR.mm (dr_var (pv 2))) dl_nil))) dl_nil)))) (fun _ _ => rfl)))))
  (dts_one (dt_ret (df_call (Fok.cal (ok__law_exchanged E 40 _)) (hr.mono (by omega)) (by rfl) tkF (dl_cons (m := true) (DS.mm (ds_var (pv 1))) (dl_cons (m := true) (DS.mm (ds_var (pv 4))) (dl_cons (m := true) (DS.mm (ds_var (pv 5))) dl_nil))))))))
  dts_nil)
  (dts_cons (dt_if (db_cmp (op_eqD hu0) ru_eq (DR.mm (dr_var (pv 3))) (DS.mm ds_int) (nomark _))
  (dts_one (dt_ret (df_op op_addS ru_addS (DS.mm (DF.s (df_slc (DR.mm (dr_var (pv 1))) do_none (do_some (DS.mm ds_int))))) (DS.mm (DF.s (df_if (db_cmp op_gt ru_iiB (DS.mm (ds_callB ru_len call_len (by rfl) E.fr_len bt_len (dl_cons (m := false) (DR.mm (dr_var (pv 1))) dl_nil))) (DS.mm ds_int) (nomark _)) (df_callR (Fok.cal (ok__law_cut E 40 _)) (hr.mono (by omega)) (by rfl) tkF (pv 0) (dl_cons (m := true) (DS.mm (DF.s (df_slc (DR.mm (dr_var (pv 1))) (do_some (DS.mm ds_int)) do_none))) dl_nil)) (DS.f (ds_tuple (by rfl) (by rfl) E.fr_tuple (dl_cons (m := false) (DS.mm (DF.s (df_lc (own := [("part", 8)]) (by rfl) sc__law_turned_about.nd  (di_seq (DF.s (df_slc (DR.mm (dr_var (pv 1))) (do_some (DS.mm ds_int)) do_none))) (blkOk_by (by kernel_rfl)) (by decide) (fun s H C cl fp A' => (dg_name (i := 8) sc__law_turned_about.nd (by rfl) (by first | exact .inl rfl | exact .inr rfl))) (fun s H C cl fp A' => dts_yes) (fun s H C cl fp A' => (DF.s (df_callR (Fok.cal (ok__law_cut E 40 _)) (hr.mono (by omega)) (by rfl) tk0 (pv 0) (dl_cons (m := true) (DS.mm (ds_var (pv 8))) dl_nil))))))) dl_nil)))))))))
  dts_nil)
  (dts_cons (dt_par (i := 6) (j := 7) (by rfl) sc__law_turned_about.nd (by rfl) (by rfl) (by decide) (by rfl) (by rfl) (dl_cons (m := true) (DS.mm (DF.s (df_callR (Fok.cal (ok__law_next E)) (hr.mono (by omega)) (by rfl) tkF (pv 0) (dl_cons (m := true) (DS.mm (ds_callB ru_len call_len (by rfl) E.fr_len bt_len (dl_cons (m := false) (DR.mm (dr_var (pv 1))) dl_nil))) dl_nil)))) (dl_cons (m := true) (DS.mm (DF.s (df_callR (Fok.cal (ok__law_next E)) (hr.mono (by omega)) (by rfl) tkF (pv 0) (dl_cons (m := true) (DS.mm (ds_callB ru_len call_len (by rfl) E.fr_len bt_len (dl_cons (m := false) (DR.mm (dr_var (pv 1))) dl_nil))) dl_nil)))) dl_nil)) (by rfl))
  (dts_cons (dt_if (DW.bb (dw_and (db_cmp (op_eqD hu0) ru_eq (DS.mm (ds_callB ru_len call_len (by rfl) E.fr_len bt_len (dl_cons (m := false) (DR.mm (dr_var (pv 1))) dl_nil))) (DS.mm ds_int) (nomark _)) (dw_and (db_tru (DS.mm (ds_isi (by rfl) E.fr_isinstance (by rfl) E.fr_tuple bt_tuple (by decide) (DS.mm (ds_ix ix_seq ru_ix (DR.mm (dr_var (pv 1))) (DS.mm ds_int) (fun _ _ => rfl)))))) (dw_and1 (db_cmp (op_neD hu0) ru_ne (DS.mm (ds_ix ix_seq ru_ix (DR.mm (dr_var (pv 1))) (DS.mm ds_int) (fun _ _ => rfl))) (DS.mm (ds_tup (dl_nil (m := true)))) (nomark _))))))
  (dts_cons (dt_par (i := 6) (j := 7) (by rfl) sc__law_turned_about.nd (by rfl) (by rfl) (by decide) (by rfl) (by rfl) (dl_cons (m := true) (DS.mm (DF.s (df_callR (Fok.cal (ok__law_next E)) (hr.mono (by omega)) (by rfl) tkF (pv 0) (dl_cons (m := true) (DS.mm (ds_callB ru_len call_len (by rfl) E.fr_len bt_len (dl_cons (m := false) (DS.mm (ds_ix ix_seq ru_ix (DR.mm (dr_var (pv 1))) (DS.mm ds_int) (fun _ _ => rfl))) dl_nil))) dl_nil)))) (dl_cons (m := true) (DS.mm (DF.s (df_callR (Fok.cal (ok__law_next E)) (hr.mono (by omega)) (by rfl) tkF (pv 0) (dl_cons (m := true) (DS.mm (ds_callB ru_len call_len (by rfl) E.fr_len bt_len (dl_cons (m := false) (DS.mm (ds_ix ix_seq ru_ix (DR.mm (dr_var (pv 1))) (DS.mm ds_int) (fun _ _ => rfl))) dl_nil))) dl_nil)))) dl_nil)) (by rfl))
  (dts_one (dt_ret (DS.f (ds_tup (dl_cons (m := true) (DS.mm (ds_ix ix_seq ru_ix (DR.mm (dr_var (pv 1))) (DS.mm ds_int) (fun _ _ => rfl))) (dl_cons (m := true) (DS.mm (DF.s (df_op op_addS ru_addS (DS.mm (DF.s (df_op op_addS ru_addS (DS.mm (DF.s (df_slc (DS.mm (ds_ix ix_seq ru_ix (DR.mm (dr_var (pv 1))) (DS.mm ds_int) (fun _ _ => rfl))) do_none (do_some (DR.mm (dr_var (pv 6))))))) (DS.mm (DF.s (df_slc (DS.mm (ds_ix ix_seq ru_ix (DR.mm (dr_var (pv 1))) (DS.mm ds_int) (fun _ _ => rfl))) (do_some (DR.mm (dr_var (pv 7)))) (do_some (DS.mm (DF.s (df_op op_addS ru_addS (DR.mm (dr_var (pv 7))) (DS.mm ds_int))))))))))) (DS.mm (DF.s (df_slc (DS.mm (ds_ix ix_seq ru_ix (DR.mm (dr_var (pv 1))) (DS.mm ds_int) (fun _ _ => rfl))) (do_some (DS.mm (DF.s (df_op op_addS ru_addS (DR.mm (dr_var (pv 6))) (DS.mm ds_int))))) do_none)))))) dl_nil)))))))
  dts_nil)
  (dts_one (dt_ret (df_if (DW.bb (dw_and (db_cmp op_gt ru_iiB (DR.mm (dr_var (pv 6))) (DS.mm ds_int) (nomark _)) (dw_and1 (db_cmp op_gt ru_iiB (DR.mm (dr_var (pv 7))) (DS.mm ds_int) (nomark _))))) (df_op op_addS ru_addS (DS.mm (DF.s (df_op op_addS ru_addS (DS.mm (DF.s (df_slc (DR.mm (dr_var (pv 1))) do_none (do_some (DR.mm (dr_var (pv 6))))))) (DS.mm (DF.s (df_slc (DR.mm (dr_var (pv 1))) (do_some (DR.mm (dr_var (pv 7)))) (do_some (DS.mm (DF.s (df_op op_addS ru_addS (DR.mm (dr_var (pv 7))) (DS.mm ds_int))))))))))) (DS.mm (DF.s (df_slc (DR.mm (dr_var (pv 1))) (do_some (DS.mm (DF.s (df_op op_addS ru_addS (DR.mm (dr_var (pv 6))) (DS.mm ds_int))))) do_none)))) (DS.f (ds_var (pv 1))))))))))))
theorem sc__law_changed : FnScope ["state", "value", "k", "j", "more", "others", "turn"] ["state", "value"] (defScope (top 20)) := ⟨rfl, rfl, rfl, by decide +kernel, rfl, by decide +kernel, by decide +kernel⟩
theorem ok__law_changed {P : Program} {w : World} {K : PySem.W.Frag} {mg : Str → Option Value} {base : Heap} (E : Fx K mg) : ∀ (n : Nat) (cls : Nat → Option Value), Fok P w K mg base cls (1 + n) "_law_changed" 2 [0] (d__law_changed n)
  | 0, cls => fok_err E.at__law_changed (ps := ["state", "value"]) rfl (fun _ _ _ _ _ _ us hl => match us, hl with | [_, _], _ => rfl)
  | n + 1, cls => by
    have ih := ok__law_changed (P := P) (w := w) (base := base) E n
    exact fok_of (k := 1 + n) E.at__law_changed sc__law_changed rfl (fun _ _ _ _ _ _ us hl => match us, hl with | [_, _], _ => rfl) fun f cdv A0 outer s H E' hr A hA => by
        subst hA
        have hu := room_u hr
        have hu0 := hr.units
        delta b__law_changed
        exact (dts_cons (dt_if (db_tru (DS.mm (ds_isi (by rfl) E.fr_isinstance (by rfl) E.fr_bool bt_bool (by decide) (DR.mm (dr_var (pv 1))))))
  (dts_one (dt_ret (DS.f (ds_ix ix_seq ru_ix (DS.mm (DF.s (df_lst (dl_cons (m := true) (DS.mm (ds_not (DR.mm (dr_var (pv 1))))) (dl_cons (m := true) (DS.mm (ds_callTy ru_int call_int1 (by rfl) E.fr_int bt_int (dl_cons (m := false) (DR.mm (dr_var (pv 1))) dl_nil))) dl_nil))))) (DS.mm (DF.s (df_callR (Fok.cal (ok__law_next E)) (hr.mono (by omega)) (by rfl) tkF (pv 0) (dl_cons (m := true) (DS.mm ds_int) dl_nil)))) (fun _ _ => rfl)))))
  dts_nil)
  (dts_cons (dt_if (DW.bb (dw_or (db_cmp op_isN ru_isNone (DR.mm (dr_var (pv 1))) (DS.mm ds_non) (nomark _)) (dw_or1 (db_tru (DS.mm (ds_isi (by rfl) E.fr_isinstance (by rfl) E.fr_int bt_int (by decide) (DR.mm (dr_var (pv 1)))))))))
  (dts_one (dt_ret (DS.f (ds_ix ix_seq ru_ix (DS.mm (DF.s (df_lst (dl_cons (m := true) (DS.mm (DF.s (df_op op_addS ru_addS (DS.mm (ds_or (ds_var (pv 1)) (ds_one ds_int))) (DS.mm ds_int)))) (dl_cons (m := true) (DS.mm (ds_op op_sub ru_sub (DS.mm (ds_or (ds_var (pv 1)) (ds_one ds_int))) (DS.mm ds_int))) (dl_cons (m := true) (DS.mm ds_int) (dl_cons (m := true) (DS.mm ds_non) (dl_cons (m := true) (DS.mm (ds_cmp (op_eqD hu0) ru_eq (DR.mm (dr_var (pv 1))) (DS.mm ds_int) (nomark _))) (dl_cons (m := true) (DS.mm (ds_callTy ru_str call_strX (by rfl) E.fr_str bt_str (dl_cons (m := false) (DR.mm (dr_var (pv 1))) dl_nil))) (dl_cons (m := true) (DS.mm (ds_op op_mul ru_mul (DS.mm ds_int) (DS.mm (ds_or (ds_var (pv 1)) (ds_one ds_int))))) dl_nil)))))))))) (DS.mm (DF.s (df_callR (Fok.cal (ok__law_next E)) (hr.mono (by omega)) (by rfl) tkF (pv 0) (dl_cons (m := true) (DS.mm ds_int) dl_nil)))) (fun _ _ => rfl)))))
  dts_nil)
  (dts_cons (dt_if (db_tru (DS.mm (ds_isi (by rfl) E.fr_isinstance (by rfl) E.fr_str bt_str (by decide) (DR.mm (dr_var (pv 1))))))
  (dts_cons (dt_set (i := 5) sc__law_changed.nd (by rfl) (by first | exact .inl rfl | exact .inr rfl) (df_lst (dl_cons (m := true) (DS.mm (DF.s (df_slc (DR.mm (dr_var (pv 1))) (do_some (DS.mm ds_int)) do_none))) (dl_cons (m := true) (DS.mm (DF.s (df_op op_addS ru_addS (DR.mm (dr_var (pv 1))) (DS.mm ds_str)))) (dl_cons (m := true) (DS.mm (DF.s (df_rev (DR.mm (dr_var (pv 1)))))) (dl_cons (m := true) (DS.mm (DF.s (df_op op_addS ru_addS (DS.mm ds_str) (DR.mm (dr_var (pv 1)))))) (dl_cons (m := true) (DS.mm ds_str) (dl_cons (m := true) (DS.mm (DF.s (df_slc (DR.mm (dr_var (pv 1))) do_none (do_some (DS.mm (ds_un un_neg ru_neg (DS.mm ds_int))))))) (dl_cons (m := true) (DS.mm ds_str) (dl_cons (m := true) (DS.mm ds_int) (dl_cons (m := true) (DS.mm ds_str) dl_nil)))))))))))
  (dts_one (dt_ret (DS.f (ds_ix ix_seq ru_ix (DS.mm (ds_var (pv 5))) (DS.mm (DF.s (df_callR (Fok.cal (ok__law_next E)) (hr.mono (by omega)) (by rfl) tkF (pv 0) (dl_cons (m := true) (DS.mm (ds_callB ru_len call_len (by rfl) E.fr_len bt_len (dl_cons (m := false) (DR.mm (dr_var (pv 5))) dl_nil))) dl_nil)))) (fun _ _ => rfl))))))
  dts_nil)
  (dts_cons (dt_if (DW.bb (dw_and (db_tru (DS.mm (ds_isi (by rfl) E.fr_isinstance (by rfl) E.fr_tuple bt_tuple (by decide) (DR.mm (dr_var (pv 1)))))) (dw_and (db_cmp (op_neD hu0) ru_ne (DR.mm (dr_var (pv 1))) (DS.mm (ds_tup (dl_nil (m := true)))) (nomark _)) (dw_and1 (db_cmp op_gt ru_iiB (DS.mm (DF.s (df_callR (Fok.cal (ok__law_next E)) (hr.mono (by omega)) (by rfl) tkF (pv 0) (dl_cons (m := true) (DS.mm ds_int) dl_nil)))) (DS.mm ds_int) (nomark _))))))
  (dts_cons (dt_set (i := 2) sc__law_changed.nd (by rfl) (by first | exact .inl rfl | exact .inr rfl) (df_callR (Fok.cal (ok__law_next E)) (hr.mono (by omega)) (by rfl) tkF (pv 0) (dl_cons (m := true) (DS.mm (ds_callB ru_len call_len (by rfl) E.fr_len bt_len (dl_cons (m := false) (DR.mm (dr_var (pv 1))) dl_nil))) dl_nil)))
  (dts_one (dt_ret (df_op op_addS ru_addS (DS.mm (DF.s (df_op op_addS ru_addS (DS.mm (DF.s (df_slc (DR.mm (dr_var (pv 1))) do_none (do_some (DR.mm (dr_var (pv 2))))))) (DS.mm (ds_tup (dl_cons (m := true) (DS.mm (DF.s (df_callR (Fok.cal (ih _)) (hr.mono (by omega)) (by rfl) tkF (pv 0) (dl_cons (m := true) (DS.mm (ds_ix ix_seq ru_ix (DR.mm (dr_var (pv 1))) (DR.mm (dr_var (pv 2))) (fun _ _ => rfl))) dl_nil)))) dl_nil)))))) (DS.mm (DF.s (df_slc (DR.mm (dr_var (pv 1))) (do_some (DS.mm (DF.s (df_op op_addS ru_addS (DR.mm (dr_var (pv 2))) (DS.mm ds_int))))) do_none)))))))
  dts_nil)
  (dts_cons (dt_if (db_not (db_tru (DS.mm (ds_isi (by rfl) E.fr_isinstance (by rfl) E.fr_tuple bt_tuple (by decide) (DR.mm (dr_var (pv 1)))))))
  (dts_one (dt_ret (DS.f (ds_tup (dl_nil (m := true))))))
  dts_nil)
  (dts_cons (dt_set (i := 2) sc__law_changed.nd (by rfl) (by first | exact .inl rfl | exact .inr rfl) (df_callR (Fok.cal (ok__law_next E)) (hr.mono (by omega)) (by rfl) tkF (pv 0) (dl_cons (m := true) (DS.mm (DF.s (df_op op_addS ru_addS (DS.mm (ds_callB ru_len call_len (by rfl) E.fr_len bt_len (dl_cons (m := false) (DR.mm (dr_var (pv 1))) dl_nil))) (DS.mm ds_int)))) dl_nil)))
  (dts_cons (dt_set (i := 3) sc__law_changed.nd (by rfl) (by first | exact .inl rfl | exact .inr rfl) (df_callR (Fok.cal (ok__law_next E)) (hr.mono (by omega)) (by rfl) tkF (pv 0) (dl_cons (m := true) (DS.mm (DF.s (df_op op_addS ru_addS (DS.mm (ds_callB ru_len call_len (by rfl) E.fr_len bt_len (dl_cons (m := false) (DR.mm (dr_var (pv 1))) dl_nil))) (DS.mm ds_int)))) dl_nil)))
  (dts_cons (dt_set (i := 4) sc__law_changed.nd (by rfl) (by first | exact .inl rfl | exact .inr rfl) (df_lst (dl_cons (m := true) (DS.mm (DF.s (df_op op_addS ru_addS (DS.mm (DF.s (df_slc (DR.mm (dr_var (pv 1))) do_none (do_some (DR.mm (dr_var (pv 2))))))) (DS.mm (DF.s (df_slc (DR.mm (dr_var (pv 1))) (do_some (DS.mm (DF.s (df_op op_addS ru_addS (DR.mm (dr_var (pv 2))) (DS.mm ds_int))))) do_none)))))) (dl_cons (m := true) (DS.mm (DF.s (df_op op_addS ru_addS (DR.mm (dr_var (pv 1))) (DS.mm (DF.s (df_slc (DR.mm (dr_var (pv 1))) do_none (do_some (DS.mm ds_int)))))))) (dl_cons (m := true) (DS.mm (DF.s (df_rev (DR.mm (dr_var (pv 1)))))) (dl_cons (m := true) (DS.mm (DF.s (df_op op_addS ru_addS (DS.mm (DF.s (df_slc (DR.mm (dr_var (pv 1))) (do_some (DR.mm (dr_var (pv 2)))) do_none))) (DS.mm (DF.s (df_slc (DR.mm (dr_var (pv 1))) do_none (do_some (DR.mm (dr_var (pv 2)))))))))) (dl_cons (m := true) (DS.mm (DF.s (df_callTy ru_listOf call_list_of (by rfl) E.fr_list bt_list (dl_cons (m := false) (DR.mm (dr_var (pv 1))) dl_nil)))) (dl_cons (m := true) (DS.mm (DF.s (df_slc (DR.mm (dr_var (pv 1))) do_none (do_some (DR.mm (dr_var (pv 2))))))) (dl_cons (m := true) (DS.mm (ds_tup (dl_nil (m := true)))) (dl_cons (m := true) (DS.mm (DF.s (df_op op_addS ru_addS (DR.mm (dr_var (pv 1))) (DS.mm (ds_tup (dl_cons (m := true) (DS.mm ds_int) dl_nil)))))) dl_nil))))))))))
  (dts_cons (dt_if (db_chn op_lt ru_iiB op_lt ru_iiB (DR.mm (dr_var (pv 2))) (DR.mm (dr_var (pv 3))) (DS.mm (ds_callB ru_len call_len (by rfl) E.fr_len bt_len (dl_cons (m := false) (DR.mm (dr_var (pv 1))) dl_nil))))
  (dts_one (dt_set (i := 4) sc__law_changed.nd (by rfl) (by first | exact .inl rfl | exact .inr rfl) (df_op op_addS ru_addS (DS.mm (ds_var (pv 4))) (DS.mm (DF.s (df_lc (own := [("turn", 6)]) (by rfl) sc__law_changed.nd  (di_rng1 (by rfl) E.fr_range (DS.mm ds_int)) (blkOk_by (by kernel_rfl)) (by decide) (fun s H C cl fp A' => (dg_name (i := 6) sc__law_changed.nd (by rfl) (by first | exact .inl rfl | exact .inr rfl))) (fun s H C cl fp A' => dts_yes) (fun s H C cl fp A' => (DF.s (df_op op_addS ru_addS (DS.mm (DF.s (df_op op_addS ru_addS (DS.mm (DF.s (df_op op_addS ru_addS (DS.mm (DF.s (df_op op_addS ru_addS (DS.mm (DF.s (df_slc (DR.mm (dr_var (pv 1))) do_none (do_some (DR.mm (dr_var (pv 2))))))) (DS.mm (DF.s (df_slc (DR.mm (dr_var (pv 1))) (do_some (DR.mm (dr_var (pv 3)))) (do_some (DS.mm (DF.s (df_op op_addS ru_addS (DR.mm (dr_var (pv 3))) (DS.mm ds_int))))))))))) (DS.mm (DF.s (df_slc (DR.mm (dr_var (pv 1))) (do_some (DS.mm (DF.s (df_op op_addS ru_addS (DR.mm (dr_var (pv 2))) (DS.mm ds_int))))) (do_some (DR.mm (dr_var (pv 3)))))))))) (DS.mm (DF.s (df_slc (DR.mm (dr_var (pv 1))) (do_some (DR.mm (dr_var (pv 2)))) (do_some (DS.mm (DF.s (df_op op_addS ru_addS (DR.mm (dr_var (pv 2))) (DS.mm ds_int))))))))))) (DS.mm (DF.s (df_slc (DR.mm (dr_var (pv 1))) (do_some (DS.mm (DF.s (df_op op_addS ru_addS (DR.mm (dr_var (pv 3))) (DS.mm ds_int))))) do_none))))))))))))
  dts_nil)
  (dts_one (dt_ret (DS.f (ds_ix ix_seq ru_ix (DS.mm (ds_var (pv 4))) (DS.mm (DF.s (df_callR (Fok.cal (ok__law_next E)) (hr.mono (by omega)) (by rfl) tkF (pv 0) (dl_cons (m := true) (DS.mm (ds_callB ru_len call_len (by rfl) E.fr_len bt_len (dl_cons (m := false) (DR.mm (dr_var (pv 4))) dl_nil))) dl_nil)))) (fun _ _ => rfl))))))))))))))
theorem sc__law_odd : FnScope ["state", "told", "odd", "pick"] ["state", "told"] (defScope (top 25)) := ⟨rfl, rfl, rfl, by decide +kernel, rfl, by decide +kernel, by decide +kernel⟩
theorem ok__law_odd {P : Program} {w : World} {K : PySem.W.Frag} {mg : Str → Option Value} {base : Heap} {cls : Nat → Option Value} (E : Fx K mg) : Fok P w K mg base cls 43 "_law_odd" 2 [0] d__law_odd :=
  fok_of (k := 42) E.at__law_odd sc__law_odd rfl (fun _ _ _ _ _ _ us hl => match us, hl with | [_, _], _ => rfl) fun f cdv A0 outer s H E' hr A hA => by
        subst hA
        have hu := room_u hr
        have hu0 := hr.units
        delta b__law_odd
        exact (dts_cons (dt_set (i := 2) sc__law_odd.nd (by rfl) (by first | exact .inl rfl | exact .inr rfl) (df_lst (dl_cons (m := true) (DS.mm ds_non) (dl_cons (m := true) (DS.mm ds_str) (dl_cons (m := true) (DS.mm ds_str) (dl_cons (m := true) (DS.mm (DF.s df_dctK)) (dl_cons (m := true) (DS.mm (ds_tup (dl_nil (m := true)))) (dl_cons (m := true) (DS.mm (DF.s (df_slc (DR.mm (dr_var (pv 1))) do_none (do_some (DS.mm ds_int))))) (dl_cons (m := true) (DS.mm (DF.s (df_callTy ru_listOf call_list_of (by rfl) E.fr_list bt_list (dl_cons (m := false) (DR.mm (dr_var (pv 1))) dl_nil)))) (dl_cons (m := true) (DS.mm (DF.s (df_op op_addS ru_addS (DR.mm (dr_var (pv 1))) (DS.mm (ds_tup (dl_cons (m := true) (DS.mm ds_int) dl_nil)))))) (dl_cons (m := true) (DS.mm (DF.s (df_op op_addS ru_addS (DS.mm (ds_tup (dl_cons (m := true) (DS.mm (DF.s (df_lst (dl_cons (m := true) (DS.mm (ds_ix ix_seq ru_ix (DR.mm (dr_var (pv 1))) (DS.mm ds_int) (fun _ _ => rfl))) dl_nil)))) dl_nil))) (DS.mm (DF.s (df_slc (DR.mm (dr_var (pv 1))) (do_some (DS.mm ds_int)) do_none)))))) (dl_cons (m := true) (DS.mm (DF.s (df_op op_addS ru_addS (DS.mm (ds_tup (dl_cons (m := true) (DS.mm ds_str) dl_nil))) (DS.mm (DF.s (df_slc (DR.mm (dr_var (pv 1))) (do_some (DS.mm ds_int)) do_none)))))) (dl_cons (m := true) (DS.mm ds_int) dl_nil)))))))))))))
  (dts_cons (dt_set (i := 3) sc__law_odd.nd (by rfl) (by first | exact .inl rfl | exact .inr rfl) (df_callR (Fok.cal (ok__law_next E)) (hr.mono (by omega)) (by rfl) tkF (pv 0) (dl_cons (m := true) (DS.mm ds_int) dl_nil)))
  (dts_cons (dt_if (db_cmp op_gt ru_iiB (DR.mm (dr_var (pv 3))) (DS.mm ds_int) (nomark _))
  (dts_one (dt_ret (df_callR (Fok.cal (ok__law_turned_about E)) (hr.mono (by omega)) (by rfl) tkF (pv 0) (dl_cons (m := true) (DS.mm (ds_var (pv 1))) dl_nil))))
  dts_nil)
  (dts_one (dt_ret (df_if (db_cmp (op_eqD hu0) ru_eq (DR.mm (dr_var (pv 3))) (DS.mm ds_int) (nomark _)) (DS.f (ds_ix ix_seq ru_ix (DS.mm (ds_var (pv 2))) (DS.mm (DF.s (df_callR (Fok.cal (ok__law_next E)) (hr.mono (by omega)) (by rfl) tkF (pv 0) (dl_cons (m := true) (DS.mm (ds_callB ru_len call_len (by rfl) E.fr_len bt_len (dl_cons (m := false) (DR.mm (dr_var (pv 2))) dl_nil))) dl_nil)))) (fun _ _ => rfl))) (df_callR (Fok.cal (ok__law_changed E 40 _)) (hr.mono (by omega)) (by rfl) tkF (pv 0) (dl_cons (m := true) (DS.mm (ds_var (pv 1))) dl_nil))))))))
theorem sc__law_same : FnScope ["actual", "expected", "k"] ["actual", "expected"] (defScope (top 16)) := ⟨rfl, rfl, rfl, by decide +kernel, rfl, by decide +kernel, by decide +kernel⟩
theorem ok__law_same {P : Program} {w : World} {K : PySem.W.Frag} {mg : Str → Option Value} {base : Heap} (E : Fx K mg) : ∀ (n : Nat) (cls : Nat → Option Value), Fok P w K mg base cls (0 + n) "_law_same" 2 [] (d__law_same n)
  | 0, cls => fok_err E.at__law_same (ps := ["actual", "expected"]) rfl (fun _ _ _ _ _ _ us hl => match us, hl with | [_, _], _ => rfl)
  | n + 1, cls => by
    have ih := ok__law_same (P := P) (w := w) (base := base) E n
    exact fok_of (k := 0 + n) E.at__law_same sc__law_same rfl (fun _ _ _ _ _ _ us hl => match us, hl with | [_, _], _ => rfl) fun f cdv A0 outer s H E' hr A hA => by
        subst hA
        have hu := room_u hr
        have hu0 := hr.units
        delta b__law_same
        exact (dts_cons (dt_if (db_cmp op_isN ru_isNone (DR.mm (dr_var (pv 1))) (DS.mm ds_non) (nomark _))
  (dts_one (dt_ret (DS.f (ds_cmp op_isN ru_isNone (DR.mm (dr_var (pv 0))) (DS.mm ds_non) (nomark _)))))
  dts_nil)
  (dts_cons (dt_if (db_tru (DS.mm (ds_isi (by rfl) E.fr_isinstance (by rfl) E.fr_bool bt_bool (by decide) (DR.mm (dr_var (pv 1))))))
  (dts_one (dt_ret (DS.f (ds_and (ds_isi (by rfl) E.fr_isinstance (by rfl) E.fr_bool bt_bool (by decide) (DR.mm (dr_var (pv 0)))) (ds_one (ds_cmp (op_eqD hu0) ru_eq (DR.mm (dr_var (pv 0))) (DR.mm (dr_var (pv 1))) (nomark _)))))))
  dts_nil)
  (dts_cons (dt_if (db_tru (DS.mm (ds_isi (by rfl) E.fr_isinstance (by rfl) E.fr_int bt_int (by decide) (DR.mm (dr_var (pv 1))))))
  (dts_one (dt_ret (DS.f (ds_and (ds_isi (by rfl) E.fr_isinstance (by rfl) E.fr_int bt_int (by decide) (DR.mm (dr_var (pv 0)))) (ds_and (ds_not (DS.mm (ds_isi (by rfl) E.fr_isinstance (by rfl) E.fr_bool bt_bool (by decide) (DR.mm (dr_var (pv 0)))))) (ds_one (ds_cmp (op_eqD hu0) ru_eq (DR.mm (dr_var (pv 0))) (DR.mm (dr_var (pv 1))) (nomark _))))))))
  dts_nil)
  (dts_cons (dt_if (db_tru (DS.mm (ds_isi (by rfl) E.fr_isinstance (by rfl) E.fr_str bt_str (by decide) (DR.mm (dr_var (pv 1))))))
  (dts_one (dt_ret (DS.f (ds_and (ds_isi (by rfl) E.fr_isinstance (by rfl) E.fr_str bt_str (by decide) (DR.mm (dr_var (pv 0)))) (ds_one (ds_cmp (op_eqD hu0) ru_eq (DR.mm (dr_var (pv 0))) (DR.mm (dr_var (pv 1))) (nomark _)))))))
  dts_nil)
  (dts_cons (dt_if (DW.bb (dw_and (db_tru (DS.mm (ds_isi (by rfl) E.fr_isinstance (by rfl) E.fr_tuple bt_tuple (by decide) (DR.mm (dr_var (pv 1)))))) (dw_and1 (db_not (db_tru (DS.mm (ds_isi (by rfl) E.fr_isinstance (by rfl) E.fr_tuple bt_tuple (by decide) (DR.mm (dr_var (pv 0))))))))))
  (dts_one (dt_ret (DS.f ds_bl)))
  dts_nil)
  (dts_cons (dt_if (DW.bb (dw_and (db_tru (DS.mm (ds_isi (by rfl) E.fr_isinstance (by rfl) E.fr_list bt_list (by decide) (DR.mm (dr_var (pv 1)))))) (dw_and1 (db_not (db_tru (DS.mm (ds_isi (by rfl) E.fr_isinstance (by rfl) E.fr_list bt_list (by decide) (DR.mm (dr_var (pv 0))))))))))
  (dts_one (dt_ret (DS.f ds_bl)))
  dts_nil)
  (dts_cons (dt_if (db_cmp (op_neD hu0) ru_ne (DS.mm (ds_callB ru_len call_len (by rfl) E.fr_len bt_len (dl_cons (m := false) (DR.mm (dr_var (pv 0))) dl_nil))) (DS.mm (ds_callB ru_len call_len (by rfl) E.fr_len bt_len (dl_cons (m := false) (DR.mm (dr_var (pv 1))) dl_nil))) (nomark _))
  (dts_one (dt_ret (DS.f ds_bl)))
  dts_nil)
  (dts_cons (dt_for (passes_of (by rfl)) (by rfl) (di_rng1 (by rfl) E.fr_range (DS.mm (ds_callB ru_len call_len (by rfl) E.fr_len bt_len (dl_cons (m := false) (DR.mm (dr_var (pv 1))) dl_nil)))) (dg_name (i := 2) sc__law_same.nd (by rfl) (by first | exact .inl rfl | exact .inr rfl))
  (dts_one (dt_if (db_not (db_tru (DS.mm (DF.s (df_call (Fok.cal (ih _)) (hr.mono (by omega)) (by rfl) tkF (dl_cons (m := true) (DS.mm (ds_ix ix_seq ru_ix (DR.mm (dr_var (pv 0))) (DR.mm (dr_var (pv 2))) (fun _ _ => rfl))) (dl_cons (m := true) (DS.mm (ds_ix ix_seq ru_ix (DR.mm (dr_var (pv 1))) (DR.mm (dr_var (pv 2))) (fun _ _ => rfl))) dl_nil)))))))
  (dts_one (dt_ret (DS.f ds_bl)))
  dts_nil)))
  (dts_one (dt_ret (DS.f ds_bl)))))))))))
theorem sc_law : FnScope ["script", "state", "seen", "turn", "word", "told", "k", "asked"] ["script"] (defScope (top 31)) := ⟨rfl, rfl, rfl, by decide +kernel, rfl, by decide +kernel, by decide +kernel⟩
theorem ok_law {P : Program} {w : World} {K : PySem.W.Frag} {mg : Str → Option Value} {base : Heap} {cls : Nat → Option Value} (E : Fx K mg) {fL : Addr} {fdL : FuncData} (F : FunD K "law" "law" (defArgs (top 31)) (defBody (top 31)) (defScope (top 31)) [] [] fL fdL) : FnOk P w K mg base (L2.CX P w) 44 fL fdL ["script"] (spD cls 1 [] d_law) :=
  fnok_of (k := 43) F sc_law rfl fun f cdv A0 outer s H E' hr A hA => by
        subst hA
        have hu := room_u hr
        have hu0 := hr.units
        delta b_law
        exact (dts_cons (dt_set (i := 1) sc_law.nd (by rfl) (by first | exact .inl rfl | exact .inr rfl) (df_lst (dl_cons (m := true) (DS.mm (DF.s (df_callTy ru_listOf call_list_of (by rfl) E.fr_list bt_list (dl_cons (m := false) (DR.mm (dr_var (pv 0))) dl_nil)))) (dl_cons (m := true) (DS.mm ds_int) (dl_cons (m := true) (DS.mm ds_int) (dl_cons (m := true) (DS.mm ds_int) dl_nil))))))
  (dts_cons (dt_set (i := 2) sc_law.nd (by rfl) (by first | exact .inl rfl | exact .inr rfl) (df_lst (dl_nil (m := true))))
  (dts_cons (dt_for (passes_of (by rfl)) (by rfl) (di_rng1 (by rfl) E.fr_range (DS.mm ds_int)) (dg_name (i := 3) sc_law.nd (by rfl) (by first | exact .inl rfl | exact .inr rfl))
  (dts_cons (dt_set (i := 4) sc_law.nd (by rfl) (by first | exact .inl rfl | exact .inr rfl) (df_callR (Fok.cal (ok__law_word E)) (hr.mono (by omega)) (by rfl) tkF (pv 1) (dl_cons (m := true) (DS.mm ds_int) dl_nil)))
  (dts_cons (dt_set (i := 5) sc_law.nd (by rfl) (by first | exact .inl rfl | exact .inr rfl) (df_call (Fok.cal (ok_least E)) (hr.mono (by omega)) (by rfl) tkF (dl_cons (m := true) (DS.mm (ds_var (pv 4))) dl_nil)))
  (dts_cons (dt_if (DW.bb (dw_or (db_not (db_tru (DS.mm (DF.s (df_call (Fok.cal (ok__law_accepts E)) (hr.mono (by omega)) (by rfl) tkF (dl_cons (m := true) (DS.mm (ds_var (pv 4))) (dl_cons (m := true) (DS.mm (ds_var (pv 5))) dl_nil))))))) (dw_or1 (db_cmp op_notBl ru_noB (DS.mm (DF.s (df_call (Fok.cal (ok_judge_least E)) (hr.mono (by omega)) (by rfl) tkF (dl_cons (m := true) (DS.mm (ds_var (pv 4))) (dl_cons (m := true) (DS.mm (ds_var (pv 5))) dl_nil))))) (DS.mm ds_bl) (nomark _)))))
  (dts_one (dt_ret (DS.f ds_bl)))
  dts_nil)
  (dts_cons (dt_set (i := 2) sc_law.nd (by rfl) (by first | exact .inl rfl | exact .inr rfl) (df_op op_addS ru_addS (DS.mm (DF.s (df_slc (DR.mm (dr_var (pv 2))) (do_some (DS.mm (ds_un un_neg ru_neg (DS.mm ds_int)))) do_none))) (DS.mm (DF.s (df_lst (dl_cons (m := true) (DS.mm (ds_var (pv 5))) dl_nil))))))
  (dts_one (dt_for (passes_of (by rfl)) (by rfl) (di_rng1 (by rfl) E.fr_range (DS.mm (DF.s (df_op op_addS ru_addS (DS.mm ds_int) (DS.mm (ds_callB ru_len call_len (by rfl) E.fr_len bt_len (dl_cons (m := false) (DR.mm (dr_var (pv 2))) dl_nil))))))) (dg_name (i := 6) sc_law.nd (by rfl) (by first | exact .inl rfl | exact .inr rfl))
  (dts_cons (dt_set (i := 7) sc_law.nd (by rfl) (by first | exact .inl rfl | exact .inr rfl) (df_if (db_cmp op_lt ru_iiB (DR.mm (dr_var (pv 6))) (DS.mm ds_int) (nomark _)) (df_callR (Fok.cal (ok__law_odd E)) (hr.mono (by omega)) (by rfl) tkF (pv 1) (dl_cons (m := true) (DS.mm (ds_var (pv 5))) dl_nil)) (DS.f (ds_ix ix_seq ru_ix (DR.mm (dr_var (pv 2))) (DS.mm (ds_op op_sub ru_sub (DR.mm (dr_var (pv 6))) (DS.mm ds_int))) (fun _ _ => rfl)))))
  (dts_one (dt_if (db_not (db_tru (DS.mm (DF.s (df_call (Fok.cal (ok__law_same E 40 _)) (hr.mono (by omega)) (by rfl) tkF (dl_cons (m := true) (DS.mm (DF.s (df_call (Fok.cal (ok_judge_least E)) (hr.mono (by omega)) (by rfl) tkF (dl_cons (m := true) (DS.mm (ds_var (pv 4))) (dl_cons (m := true) (DS.mm (ds_var (pv 7))) dl_nil))))) (dl_cons (m := true) (DS.mm (DF.s (df_call (Fok.cal (ok__law_accepts E)) (hr.mono (by omega)) (by rfl) tkF (dl_cons (m := true) (DS.mm (ds_var (pv 4))) (dl_cons (m := true) (DS.mm (ds_var (pv 7))) dl_nil))))) dl_nil)))))))
  (dts_one (dt_ret (DS.f ds_bl)))
  dts_nil))))))))))
  (dts_one (dt_ret (DS.f ds_bl))))))
end Z

namespace Z
open PySem L2
def hfn : List He.DefD := [
  ⟨("_law_next", none), "_law_next", "_law_next", defArgs (top 15), defBody (top 15), defScope (top 15), [], []⟩,
  ⟨("_law_word", none), "_law_word", "_law_word", defArgs (top 27), defBody (top 27), defScope (top 27), [], []⟩,
  ⟨("check_word", none), "check_word", "check_word", defArgs (top 10), defBody (top 10), defScope (top 10), [], []⟩,
  ⟨("shortened", none), "shortened", "shortened", defArgs (top 9), defBody (top 9), defScope (top 9), [], []⟩,
  ⟨("least", none), "least", "least", defArgs (top 12), defBody (top 12), defScope (top 12), [], []⟩,
  ⟨("_law_short", none), "_law_short", "_law_short", defArgs (top 28), defBody (top 28), defScope (top 28), [], []⟩,
  ⟨("_law_is", none), "_law_is", "_law_is", defArgs (top 19), defBody (top 19), defScope (top 19), [], []⟩,
  ⟨("_law_back", none), "_law_back", "_law_back", defArgs (top 17), defBody (top 17), defScope (top 17), [], []⟩,
  ⟨("_law_are_pairs_in", none), "_law_are_pairs_in", "_law_are_pairs_in", defArgs (top 26), defBody (top 26), defScope (top 26), [], []⟩,
  ⟨("_law_is_whole", none), "_law_is_whole", "_law_is_whole", defArgs (top 18), defBody (top 18), defScope (top 18), [], []⟩,
  ⟨("_law_is_word", none), "_law_is_word", "_law_is_word", defArgs (top 29), defBody (top 29), defScope (top 29), [], []⟩,
  ⟨("_law_accepts", none), "_law_accepts", "_law_accepts", defArgs (top 30), defBody (top 30), defScope (top 30), [], []⟩,
  ⟨("is_told", none), "is_told", "is_told", defArgs (top 5), defBody (top 5), defScope (top 5), [], []⟩,
  ⟨("is_whole", none), "is_whole", "is_whole", defArgs (top 4), defBody (top 4), defScope (top 4), [], []⟩,
  ⟨("is_word", none), "is_word", "is_word", defArgs (top 11), defBody (top 11), defScope (top 11), [], []⟩,
  ⟨("read_back", none), "read_back", "read_back", defArgs (top 8), defBody (top 8), defScope (top 8), [], []⟩,
  ⟨("judge_least", none), "judge_least", "judge_least", defArgs (top 13), defBody (top 13), defScope (top 13), [], []⟩,
  ⟨("_law_ints", none), "_law_ints", "_law_ints", defArgs (top 21), defBody (top 21), defScope (top 21), [], []⟩,
  ⟨("_law_exchanged", none), "_law_exchanged", "_law_exchanged", defArgs (top 22), defBody (top 22), defScope (top 22), [], []⟩,
  ⟨("_law_cut", none), "_law_cut", "_law_cut", defArgs (top 23), defBody (top 23), defScope (top 23), [], []⟩,
  ⟨("_law_turned_about", none), "_law_turned_about", "_law_turned_about", defArgs (top 24), defBody (top 24), defScope (top 24), [], []⟩,
  ⟨("_law_changed", none), "_law_changed", "_law_changed", defArgs (top 20), defBody (top 20), defScope (top 20), [], []⟩,
  ⟨("_law_odd", none), "_law_odd", "_law_odd", defArgs (top 25), defBody (top 25), defScope (top 25), [], []⟩,
  ⟨("_law_same", none), "_law_same", "_law_same", defArgs (top 16), defBody (top 16), defScope (top 16), [], []⟩,
  ⟨("law", none), "law", "law", defArgs (top 31), defBody (top 31), defScope (top 31), [], []⟩]
def hfa : List He.Fa := [.glo "_law_next", .glo "_law_word", .glo "check_word", .glo "shortened", .glo "least", .glo "_law_short", .glo "_law_is", .glo "_law_back", .glo "_law_are_pairs_in", .glo "_law_is_whole", .glo "_law_is_word", .glo "_law_accepts", .glo "is_told", .glo "is_whole", .glo "is_word", .glo "read_back", .glo "judge_least", .glo "_law_ints", .glo "_law_exchanged", .glo "_law_cut", .glo "_law_turned_about", .glo "_law_changed", .glo "_law_odd", .glo "_law_same", .glo "law", .free "bool", .free "int", .free "isinstance", .free "len", .free "list", .free "range", .free "str", .free "tuple", .int "MOST_LETTERS" 60]
abbrev hR : PySem.W.OpenRow := PySem.W.OpenLaw.row PySem.Challenge.rw_shapewhole_k49_least_words
abbrev hk : PySem.W.Hook := hookZ 4 hfa hfn
def hob (s : PySem.W.SharedT) : He.AlD := obsZ 4 hfa hfn (HandSHeadRun.getT s)
theorem hob_eq (s : PySem.W.SharedT) : hob s = hk.obs s.abs := obsZ_eq (HandSHeadRun.getT_eq s)
def hloose : List PySem.Str := (["ShapewholeError", "TooWide", "is_whole", "is_told", "MOST_LETTERS", "read_back", "shortened", "check_word", "is_word", "least", "judge_least", "_law_next", "_law_same", "_law_back", "_law_is_whole", "_law_is", "_law_changed", "_law_ints", "_law_exchanged", "_law_cut", "_law_turned_about", "_law_odd", "_law_are_pairs_in", "_law_word", "_law_short", "_law_is_word", "_law_accepts"] : List PySem.Str)
theorem hrun (w : World) : HandSHeadRun.RunEq hR (PySem.W.view hR.prog [31]) hk hob 4000 hloose w := by
  intro os
  kernel_rfl
theorem hfx {K : PySem.W.Frag} {h : Heap} {mg : Str → Option Value} (X : K.In h) (G : h.Ns mainGlobals mg) (c : He.SaysD hfa hfn K) : Fx K mg where
  at__law_next := (c.def_ 0).elim fun fd F => ⟨_, fd, F, He.glo_ok X G (c.fact 0)⟩
  at__law_word := (c.def_ 1).elim fun fd F => ⟨_, fd, F, He.glo_ok X G (c.fact 1)⟩
  at_check_word := (c.def_ 2).elim fun fd F => ⟨_, fd, F, He.glo_ok X G (c.fact 2)⟩
  at_shortened := (c.def_ 3).elim fun fd F => ⟨_, fd, F, He.glo_ok X G (c.fact 3)⟩
  at_least := (c.def_ 4).elim fun fd F => ⟨_, fd, F, He.glo_ok X G (c.fact 4)⟩
  at__law_short := (c.def_ 5).elim fun fd F => ⟨_, fd, F, He.glo_ok X G (c.fact 5)⟩
  at__law_is := (c.def_ 6).elim fun fd F => ⟨_, fd, F, He.glo_ok X G (c.fact 6)⟩
  at__law_back := (c.def_ 7).elim fun fd F => ⟨_, fd, F, He.glo_ok X G (c.fact 7)⟩
  at__law_are_pairs_in := (c.def_ 8).elim fun fd F => ⟨_, fd, F, He.glo_ok X G (c.fact 8)⟩
  at__law_is_whole := (c.def_ 9).elim fun fd F => ⟨_, fd, F, He.glo_ok X G (c.fact 9)⟩
  at__law_is_word := (c.def_ 10).elim fun fd F => ⟨_, fd, F, He.glo_ok X G (c.fact 10)⟩
  at__law_accepts := (c.def_ 11).elim fun fd F => ⟨_, fd, F, He.glo_ok X G (c.fact 11)⟩
  at_is_told := (c.def_ 12).elim fun fd F => ⟨_, fd, F, He.glo_ok X G (c.fact 12)⟩
  at_is_whole := (c.def_ 13).elim fun fd F => ⟨_, fd, F, He.glo_ok X G (c.fact 13)⟩
  at_is_word := (c.def_ 14).elim fun fd F => ⟨_, fd, F, He.glo_ok X G (c.fact 14)⟩
  at_read_back := (c.def_ 15).elim fun fd F => ⟨_, fd, F, He.glo_ok X G (c.fact 15)⟩
  at_judge_least := (c.def_ 16).elim fun fd F => ⟨_, fd, F, He.glo_ok X G (c.fact 16)⟩
  at__law_ints := (c.def_ 17).elim fun fd F => ⟨_, fd, F, He.glo_ok X G (c.fact 17)⟩
  at__law_exchanged := (c.def_ 18).elim fun fd F => ⟨_, fd, F, He.glo_ok X G (c.fact 18)⟩
  at__law_cut := (c.def_ 19).elim fun fd F => ⟨_, fd, F, He.glo_ok X G (c.fact 19)⟩
  at__law_turned_about := (c.def_ 20).elim fun fd F => ⟨_, fd, F, He.glo_ok X G (c.fact 20)⟩
  at__law_changed := (c.def_ 21).elim fun fd F => ⟨_, fd, F, He.glo_ok X G (c.fact 21)⟩
  at__law_odd := (c.def_ 22).elim fun fd F => ⟨_, fd, F, He.glo_ok X G (c.fact 22)⟩
  at__law_same := (c.def_ 23).elim fun fd F => ⟨_, fd, F, He.glo_ok X G (c.fact 23)⟩
  at_law := (c.def_ 24).elim fun fd F => ⟨_, fd, F, He.glo_ok X G (c.fact 24)⟩
  fr_bool := He.free_ok X G (c.fact 25)
  fr_int := He.free_ok X G (c.fact 26)
  fr_isinstance := He.free_ok X G (c.fact 27)
  fr_len := He.free_ok X G (c.fact 28)
  fr_list := He.free_ok X G (c.fact 29)
  fr_range := He.free_ok X G (c.fact 30)
  fr_str := He.free_ok X G (c.fact 31)
  fr_tuple := He.free_ok X G (c.fact 32)
  gi_MOST_LETTERS := He.int_ok X G (c.fact 33)
end Z
open PySem PySem.W PySem.Calls PyProof.Rows
theorem PySem.Challenge.cw_shapewhole_k49_least_words_holds : PySem.Challenge.rw_shapewhole_k49_least_words.Holds := by
  w_on; o_law
  refine HandSHeadRun.head_any (r := OpenLaw.row PySem.Challenge.rw_shapewhole_k49_least_words) (q := view (OpenLaw.row PySem.Challenge.rw_shapewhole_k49_least_words).prog [31]) (H := Z.hk) (ob := Z.hob) (M := 4000) (loose := Z.hloose) (d := HandSHeadRun.topDef (OpenLaw.row PySem.Challenge.rw_shapewhole_k49_least_words).prog 31) (kwd := []) Z.hob_eq
    (by kernel_rfl) (fun s => by kernel_rfl) Z.hrun (by kernel_rfl) (by kernel_rfl) (by kernel_rfl) (by rfl) (by first | assumption | decide +kernel) (by decide +kernel) ⟨rfl, rfl, rfl, rfl, rfl, by decide +kernel⟩ ?hw ?hc
  case hw => w_witness2
  case hc =>
    refine L2.walk_ofE (l := PySem.Challenge.rw_shapewhole_k49_least_words) (n := 63) (k := 44) (x := "script") (CX := L2.CX0) rfl (by decide) (by kernel_rfl) ⟨rfl, by decide, by decide⟩ ?F (fun _ _ _ _ z => z)
    intro w mg fa h Y G hmg0
    obtain ⟨K, KX, c, nl⟩ := Y
    have hmg : mg ("law" : PySem.Str) = some (.ref fa) := by
      have e : (HandSHeadRun.topDef (OpenLaw.row PySem.Challenge.rw_shapewhole_k49_least_words).prog 31).name = ("law" : PySem.Str) := by kernel_rfl
      rw [← e]
      exact hmg0
    obtain ⟨fd, F⟩ := c.def_ 24
    have e := hmg.symm.trans (He.glo_ok KX G (c.fact 24 (f := .glo "law") rfl))
    cases e
    have b := L2.FunD.bindsA (ps := ["script"]) F fun _ _ _ _ _ _ us hl => match us, hl with | [_], _ => rfl
    exact ⟨K, fd, fun vs H Q _ => Z.spD (fun _ => none) 1 [] Z.d_law vs H Q Z.noX, KX, fun s v => b s [v] rfl, fun H a ns hl _ hS => Z.law_sp nl hS (Z.plain_law ns hl), fun base _ _ => Z.fn_out (Z.ok_law (P := (PySem.Challenge.rw_shapewhole_k49_least_words).prog) (w := w) (cls := fun _ => none) (Z.hfx KX G c) F)⟩
