import PyProof.Rows.All
import Wide.All
import OpenK.AllK
import Wide.FinOn
import HandS.ForMost
import HandS.Exc
import HandS.ExcOwn
import HandS.ExcInit
import HandS.CallSlots
import HandS.TryMany
import HandS.IsInst
import HandS.TupAny
import HandS.Deep
import HandS.Style
import HandS.StrMore
import HandS.Conv
import HandS.TupLen
import KE.SortData
import HandS.ExcField
import HandS.WordsExc
import HandS.Zip
import HandS.Walk
import HandS.DictComp
import OpenK.KOps
import HandS.Rev
import PyProof.StrBlock2
import HandS.Defaults
import PySem.Challenge.RW_doneornot_k27_plans_made
section
set_option Elab.async false
set_option linter.all false
set_option maxRecDepth 100000
set_option maxHeartbeats 4000000
/-! Plain data over the hand layer: a value and what it stands for. -/
namespace DL
open PySem PySem.Spec PyProof.Rows L2

/-- plain data -/
inductive D where
  | non | bl (b : Bool) | int (i : Int) | str (x : Str)
  | tup (xs : List D) | lst (xs : List D) | dK (kvs : List (D × D)) | dT (kvs : List (D × D))
  | ins (C : Addr) (fs : List (Str × D)) | raw (v : V) | exc (a dd C : Addr) (fs : List (Str × D))

def keyD : Key → D
  | .inl i => .int i
  | .inr x => .str x

/-- a tuple stands at a: made by the program (or written, and empty) -/
def TupAt (K : PySem.W.Frag) (H : Hp) (a : Addr) (vs : List V) : Prop := H a = some (.tup vs) ∨ (vs = [] ∧ SqT K H a [])
mutual
/-- v stands for d -/
inductive Is (K : PySem.W.Frag) (H : Hp) : V → D → Prop
  | non : Is K H .non .non
  | bl (b : Bool) : Is K H (.bl b) (.bl b)
  | int (i : Int) : Is K H (.int i) (.int i)
  | str (x : Str) : Is K H (.str x) (.str x)
  | tup {a : Addr} {vs : List V} {ds : List D} : TupAt K H a vs → IsA K H vs ds → Is K H (.ref a) (.tup ds)
  | lst {a : Addr} {vs : List V} {ds : List D} : H a = some (.lst vs) → IsA K H vs ds → Is K H (.ref a) (.lst ds)
  | dK {a : Addr} {ks : List (Key × V)} {ds : List (D × D)} : H a = some (.dK ks) → IsK K H ks ds → Is K H (.ref a) (.dK ds)
  | dT {a : Addr} {ks : List (List Key × V)} {ds : List (D × D)} : H a = some (.dT ks) → IsT K H ks ds → Is K H (.ref a) (.dT ds)
  | ins {a C dx : Addr} {fs : List (Str × V)} {ds : List (Str × D)} : H a = some (.ins C dx fs) → IsF K H fs ds → Is K H (.ref a) (.ins C ds)
  | raw (v : V) : Is K H v (.raw v)
  | exc {a dd C : Addr} {fs : List (Str × V)} {ds : List (Str × D)} : H dd = some (.xd fs) → IsF K H fs ds → Is K H (.ref a) (.exc a dd C ds)
inductive IsA (K : PySem.W.Frag) (H : Hp) : List V → List D → Prop
  | nil : IsA K H [] []
  | cons {v : V} {d : D} {vs : List V} {ds : List D} : Is K H v d → IsA K H vs ds → IsA K H (v :: vs) (d :: ds)
inductive IsK (K : PySem.W.Frag) (H : Hp) : List (Key × V) → List (D × D) → Prop
  | nil : IsK K H [] []
  | cons {k : Key} {v : V} {d : D} {vs : List (Key × V)} {ds : List (D × D)} : Is K H v d → IsK K H vs ds → IsK K H ((k, v) :: vs) ((keyD k, d) :: ds)
inductive IsT (K : PySem.W.Frag) (H : Hp) : List (List Key × V) → List (D × D) → Prop
  | nil : IsT K H [] []
  | cons {k : List Key} {v : V} {d : D} {vs : List (List Key × V)} {ds : List (D × D)} : Is K H v d → IsT K H vs ds → IsT K H ((k, v) :: vs) ((.tup (k.map keyD), d) :: ds)
inductive IsF (K : PySem.W.Frag) (H : Hp) : List (Str × V) → List (Str × D) → Prop
  | nil : IsF K H [] []
  | cons {k : Str} {v : V} {d : D} {vs : List (Str × V)} {ds : List (Str × D)} : Is K H v d → IsF K H vs ds → IsF K H ((k, v) :: vs) ((k, d) :: ds)
end

section
variable {K : PySem.W.Frag} {H H' : Hp}
theorem same_rd {a : Addr} {u : HO} (e : Same H H') (h : Rd H a u) : Rd H' a u := by
  rcases h with h | ⟨o, h⟩
  · exact .inl (e _ _ h)
  · exact .inr ⟨o, e _ _ h⟩
theorem same_sq {a : Addr} {xs : List V} (e : Same H H') (h : SqT K H a xs) : SqT K H' a xs := by
  rcases h with h | h
  · exact .inl (same_rd e h)
  · exact .inr h
theorem same_ta {a : Addr} {xs : List V} (e : Same H H') (h : TupAt K H a xs) : TupAt K H' a xs := by
  rcases h with h | ⟨h, t⟩
  · exact .inl (e _ _ h)
  · exact .inr ⟨h, same_sq e t⟩
theorem same_t {a : Addr} {xs : List V} (e : Same H H') (h : TupAt K H a xs) : SqT K H' a xs := by
  rcases h with h | ⟨h, t⟩
  · exact SqT.of (e _ _ h)
  · subst h
    exact same_sq e t
theorem same_upd {a : Addr} {o : HO} (h : H a = none) : Same H (upd H a o) := fun b u e => by
  rw [upd_ne (ne_of_none e h)]
  exact e
mutual
theorem Is.mono (e : Same H H') : ∀ {v : V} {d : D}, Is K H v d → Is K H' v d
  | _, _, .non => .non
  | _, _, .bl b => .bl b
  | _, _, .int i => .int i
  | _, _, .str x => .str x
  | _, _, .tup h a => .tup (same_ta e h) (IsA.mono e a)
  | _, _, .lst h a => .lst (e _ _ h) (IsA.mono e a)
  | _, _, .dK h a => .dK (e _ _ h) (IsK.mono e a)
  | _, _, .dT h a => .dT (e _ _ h) (IsT.mono e a)
  | _, _, .ins h a => .ins (e _ _ h) (IsF.mono e a)
  | _, _, .raw v => .raw v
  | _, _, .exc h a => .exc (e _ _ h) (IsF.mono e a)
theorem IsA.mono (e : Same H H') : ∀ {vs : List V} {ds : List D}, IsA K H vs ds → IsA K H' vs ds
  | _, _, .nil => .nil
  | _, _, .cons a b => .cons (Is.mono e a) (IsA.mono e b)
theorem IsK.mono (e : Same H H') : ∀ {vs : List (Key × V)} {ds : List (D × D)}, IsK K H vs ds → IsK K H' vs ds
  | _, _, .nil => .nil
  | _, _, .cons a b => .cons (Is.mono e a) (IsK.mono e b)
theorem IsT.mono (e : Same H H') : ∀ {vs : List (List Key × V)} {ds : List (D × D)}, IsT K H vs ds → IsT K H' vs ds
  | _, _, .nil => .nil
  | _, _, .cons a b => .cons (Is.mono e a) (IsT.mono e b)
theorem IsF.mono (e : Same H H') : ∀ {vs : List (Str × V)} {ds : List (Str × D)}, IsF K H vs ds → IsF K H' vs ds
  | _, _, .nil => .nil
  | _, _, .cons a b => .cons (Is.mono e a) (IsF.mono e b)
end
theorem IsA.length : ∀ {vs : List V} {ds : List D}, IsA K H vs ds → vs.length = ds.length
  | _, _, .nil => rfl
  | _, _, .cons _ b => by rw [List.length_cons, List.length_cons, IsA.length b]
theorem IsA.get : ∀ {vs : List V} {ds : List D} {i : Nat} {d : D}, IsA K H vs ds → ds[i]? = some d → ∃ v, vs[i]? = some v ∧ Is K H v d
  | _, _, _, _, .nil, e => by simp at e
  | _, _, 0, _, .cons a _, e => by simp at e; subst e; exact ⟨_, rfl, a⟩
  | _, _, i + 1, d, .cons _ b, e => by
    obtain ⟨v, h1, h2⟩ := IsA.get (i := i) (d := d) b (by simpa using e)
    exact ⟨v, by simpa using h1, h2⟩
theorem IsA.get' : ∀ {vs : List V} {ds : List D} {i : Nat} {v : V}, IsA K H vs ds → vs[i]? = some v → ∃ d, ds[i]? = some d ∧ Is K H v d
  | _, _, _, _, .nil, e => by simp at e
  | _, _, 0, _, .cons a _, e => by simp at e; subst e; exact ⟨_, rfl, a⟩
  | _, _, i + 1, v, .cons _ b, e => by
    obtain ⟨d, h1, h2⟩ := IsA.get' (i := i) (v := v) b (by simpa using e)
    exact ⟨d, by simpa using h1, h2⟩
theorem IsA.append : ∀ {vs : List V} {ds : List D} {us : List V} {es : List D}, IsA K H vs ds → IsA K H us es → IsA K H (vs ++ us) (ds ++ es)
  | _, _, _, _, .nil, h => h
  | _, _, _, _, .cons a b, h => .cons a (IsA.append b h)
theorem IsA.take : ∀ {vs : List V} {ds : List D} (n : Nat), IsA K H vs ds → IsA K H (vs.take n) (ds.take n)
  | _, _, 0, _ => .nil
  | _, _, _ + 1, .nil => .nil
  | _, _, n + 1, .cons a b => .cons a (IsA.take n b)
theorem IsA.drop : ∀ {vs : List V} {ds : List D} (n : Nat), IsA K H vs ds → IsA K H (vs.drop n) (ds.drop n)
  | _, _, 0, h => h
  | _, _, _ + 1, .nil => .nil
  | _, _, n + 1, .cons _ b => IsA.drop n b
theorem IsA.set {v : V} {d : D} (r : Is K H v d) : ∀ {vs : List V} {ds : List D} (i : Nat), IsA K H vs ds → IsA K H (vs.set i v) (ds.set i d)
  | _, _, _, .nil => .nil
  | _, _, 0, .cons _ b => .cons r b
  | _, _, i + 1, .cons a b => .cons a (IsA.set r i b)
theorem IsA.erase : ∀ {vs : List V} {ds : List D} (i : Nat), IsA K H vs ds → IsA K H (vs.eraseIdx i) (ds.eraseIdx i)
  | _, _, _, .nil => .nil
  | _, _, 0, .cons _ b => b
  | _, _, i + 1, .cons a b => .cons a (IsA.erase i b)
theorem IsF.get : ∀ {fs : List (Str × V)} {ds : List (Str × D)} {f : Str} {d : D}, IsF K H fs ds → ds.lookup f = some d → ∃ v, fs.lookup f = some v ∧ Is K H v d
  | _, _, _, _, .nil, e => by simp at e
  | _, _, f, d, .cons (k := k) a b, e => by
    rw [List.lookup_cons] at e ⊢
    cases h : (f == k) with
    | true =>
      rw [h] at e
      simp only at e ⊢
      cases e
      exact ⟨_, rfl, a⟩
    | false =>
      rw [h] at e
      exact IsF.get b e
theorem IsF.none : ∀ {fs : List (Str × V)} {ds : List (Str × D)} {f : Str}, IsF K H fs ds → ds.lookup f = Option.none → fs.lookup f = Option.none
  | _, _, _, .nil, e => rfl
  | _, _, f, .cons (k := k) a b, e => by
    rw [List.lookup_cons] at e ⊢
    cases h : (f == k) with
    | true =>
      rw [h] at e
      cases e
    | false =>
      rw [h] at e
      exact IsF.none b e
/-- a field stored, in its place or at the end -/
def putD (f : Str) (d : D) : List (Str × D) → List (Str × D)
  | [] => [(f, d)]
  | (g, x) :: r => if g = f then (g, d) :: r else (g, x) :: putD f d r
theorem IsF.put {f : Str} {y : V} {d : D} (r : Is K H y d) : ∀ {fs : List (Str × V)} {ds : List (Str × D)}, IsF K H fs ds → IsF K H (putF f y fs) (putD f d ds)
  | _, _, .nil => .cons r .nil
  | _, _, .cons (k := k) (v := x) (d := z) (vs := vs) (ds := ds) a b => by
    show IsF K H (if k = f then (k, y) :: vs else (k, x) :: putF f y vs) (if k = f then (k, d) :: ds else (k, z) :: putD f d ds)
    by_cases h : k = f
    · rw [if_pos h, if_pos h]
      exact .cons r b
    · rw [if_neg h, if_neg h]
      exact .cons a (IsF.put r b)
theorem IsF.length : ∀ {fs : List (Str × V)} {ds : List (Str × D)}, IsF K H fs ds → fs.length = ds.length
  | _, _, .nil => rfl
  | _, _, .cons _ b => by rw [List.length_cons, List.length_cons, IsF.length b]
theorem IsK.length : ∀ {fs : List (Key × V)} {ds : List (D × D)}, IsK K H fs ds → fs.length = ds.length
  | _, _, .nil => rfl
  | _, _, .cons _ b => by rw [List.length_cons, List.length_cons, IsK.length b]
theorem IsT.length : ∀ {fs : List (List Key × V)} {ds : List (D × D)}, IsT K H fs ds → fs.length = ds.length
  | _, _, .nil => rfl
  | _, _, .cons _ b => by rw [List.length_cons, List.length_cons, IsT.length b]
end
end DL
end

section
set_option Elab.async false
set_option linter.all false
set_option maxRecDepth 100000
set_option maxHeartbeats 4000000
/-! Cells that may change, the state of a body, what runs. -/
namespace DL
open PySem PySem.Spec PyProof.Rows L2

/-- a cell: an object that may change -/
inductive Cell where
  | lst (ds : List D) | dK (kvs : List (D × D)) | dT (kvs : List (D × D)) | ins (C : Addr) (fs : List (Str × D)) | pen (n : Nat)
abbrev Mem := List (Addr × Cell)

/-- the pen: at p; n draws are left -/
def PenAt (K : PySem.W.Frag) (Hn H : Hp) (p : Addr) (n : Nat) : Prop :=
  ∃ (c : Addr) (ns : List Int) (at' dg ct fo : Int), H p = some (.dK [(.inr "cells", .ref c), (.inr "at", .int at'), (.inr "digits", .int dg), (.inr "count", .int ct), (.inr "fold", .int fo)]) ∧
    SqL K Hn c (ns.map V.int) ∧ 0 ≤ at' ∧ 0 ≤ dg ∧ 0 ≤ ct ∧ 0 ≤ fo ∧ fo < 3000000000 ∧ ct + n ≤ 1000000000000
def CellOk (K : PySem.W.Frag) (Hn H : Hp) (a : Addr) : Cell → Prop
  | .lst ds => ∃ vs, H a = some (.lst vs) ∧ IsA K Hn vs ds
  | .dK kvs => ∃ ks, H a = some (.dK ks) ∧ IsK K Hn ks kvs
  | .dT kvs => ∃ ks, H a = some (.dT ks) ∧ IsT K Hn ks kvs
  | .ins C fs => ∃ dx vs, H a = some (.ins C dx vs) ∧ IsF K Hn vs fs
  | .pen n => PenAt K Hn H a n
section
variable {K : PySem.W.Frag} {Hn H Hn' H' : Hp} {a : Addr} {c : Cell} {o : HO}
theorem CellOk.there (h : CellOk K Hn H a c) : ∃ o, H a = some o := by
  cases c with
  | lst ds => obtain ⟨_, h, _⟩ := h; exact ⟨_, h⟩
  | dK ds => obtain ⟨_, h, _⟩ := h; exact ⟨_, h⟩
  | dT ds => obtain ⟨_, h, _⟩ := h; exact ⟨_, h⟩
  | ins C fs => obtain ⟨_, _, h, _⟩ := h; exact ⟨_, h⟩
  | pen n => obtain ⟨_, _, _, _, _, _, h, _⟩ := h; exact ⟨_, h⟩
theorem CellOk.mono (h : CellOk K Hn H a c) (en : Same Hn Hn') (e : H' a = H a) : CellOk K Hn' H' a c := by
  cases c with
  | lst ds => obtain ⟨_, h, r⟩ := h; exact ⟨_, e.trans h, r.mono en⟩
  | dK ds => obtain ⟨_, h, r⟩ := h; exact ⟨_, e.trans h, r.mono en⟩
  | dT ds => obtain ⟨_, h, r⟩ := h; exact ⟨_, e.trans h, r.mono en⟩
  | ins C fs => obtain ⟨_, _, h, r⟩ := h; exact ⟨_, _, e.trans h, r.mono en⟩
  | pen n =>
    obtain ⟨c, ns, at', dg, ct, fo, h, r, z⟩ := h
    exact ⟨c, ns, at', dg, ct, fo, e.trans h, en.seq r, z⟩
end

structure Rep (K : PySem.W.Frag) (M : Mem) (Hn H : Hp) : Prop where
  sub : Same Hn H
  cell : ∀ p ∈ M, Hn p.1 = none ∧ CellOk K Hn H p.1 p.2
  nd : (M.map (·.1)).Nodup
/-- free, or a tuple: it may come to be known -/
def Fre (H : Hp) (a : Addr) : Prop := H a = none ∨ ∃ xs, H a = some (.tup xs)
theorem CellOk.notTup {K : PySem.W.Frag} {Hn H : Hp} {a : Addr} {c : Cell} (h : CellOk K Hn H a c) (xs : List V) : H a ≠ some (.tup xs) := fun e => by
  cases c with
  | lst ds => obtain ⟨_, h, _⟩ := h; rw [h] at e; cases e
  | dK ds => obtain ⟨_, h, _⟩ := h; rw [h] at e; cases e
  | dT ds => obtain ⟨_, h, _⟩ := h; rw [h] at e; cases e
  | ins C fs => obtain ⟨_, _, h, _⟩ := h; rw [h] at e; cases e
  | pen n => obtain ⟨_, _, _, _, _, _, h, _⟩ := h; rw [h] at e; cases e
/-- from one state to a later one, in which what stands in A may have changed -/
structure Step (A : List Addr) (Hn H Hn' H' : Hp) : Prop where
  nn : Same Hn Hn'
  keep : ∀ a o, a ∉ A → H a = some o → H' a = some o
  there : ∀ a, H a ≠ none → H' a ≠ none
  new : ∀ a, Hn a = none → Hn' a ≠ none → Fre H a
  nt : ∀ a xs, H' a = some (.tup xs) → H a = none ∨ H a = some (.tup xs)
theorem Step.refl {A : List Addr} {Hn H : Hp} : Step A Hn H Hn H := ⟨Same.refl _, fun _ _ _ e => e, fun _ e => e, fun _ e n => absurd e n, fun _ _ e => .inr e⟩
theorem Step.back {A : List Addr} {Hn H Hn1 H1 : Hp} (a : Step A Hn H Hn1 H1) {c : Addr} (h : H1 c = none) : H c = none := by
  cases w : H c with
  | none => rfl
  | some o => exact absurd h (a.there c (by rw [w]; simp))
theorem Step.fre {A : List Addr} {Hn H Hn1 H1 : Hp} (a : Step A Hn H Hn1 H1) {c : Addr} (h : Fre H1 c) : Fre H c := by
  rcases h with h | ⟨xs, h⟩
  · exact .inl (a.back h)
  · exact (a.nt c xs h).imp id fun h => ⟨xs, h⟩
theorem Step.trans {A : List Addr} {Hn H Hn1 H1 Hn2 H2 : Hp} (a : Step A Hn H Hn1 H1) (b : Step A Hn1 H1 Hn2 H2) : Step A Hn H Hn2 H2 := by
  refine ⟨a.nn.trans b.nn, fun c o hc e => b.keep c o hc (a.keep c o hc e), fun c e => b.there c (a.there c e), fun c e n => ?_, fun c xs e => ?_⟩
  · cases q : Hn1 c with
    | none => exact a.fre (b.new c q n)
    | some o => exact a.new c e (by rw [q]; simp)
  · rcases b.nt c xs e with h | h
    · exact .inl (a.back h)
    · exact a.nt c xs h

/-- the entry of a body: what was data, all, which cells may change -/
structure Bas where
  Hn : Hp
  H : Hp
  A : List Addr
abbrev Sl := List (Option D)
/-- the state within a body -/
structure SR (K : PySem.W.Frag) (B : Bas) (M : Mem) (Γ : Sl) (Hn H : Hp) (σ : L2.St) : Prop where
  rep : Rep K M Hn H
  step : Step B.A B.Hn B.H Hn H
  loc : ∀ p ∈ M, p.1 ∈ B.A ∨ B.H p.1 = none
  pre : B.A <+: M.map (·.1)
  sl : ∀ (i : Nat) (d : D), Γ[i]? = some (some d) → ∃ v, σ[i]? = some (some v) ∧ Is K Hn v d

theorem erase_map {α β : Type} (f : α → β) : ∀ (l : List α) (k : Nat), (l.eraseIdx k).map f = (l.map f).eraseIdx k
  | [], _ => rfl
  | _ :: _, 0 => rfl
  | x :: l, k + 1 => by
    show f x :: (l.eraseIdx k).map f = f x :: (l.map f).eraseIdx k
    rw [erase_map f l k]
section
variable {K : PySem.W.Frag} {B : Bas} {M : Mem} {Γ : Sl} {Hn H : Hp} {σ : L2.St} {a : Addr} {o : HO}
theorem Rep.nn (R : Rep K M Hn H) (h : H a = none) : Hn a = none := R.sub.free h
theorem Rep.ne (R : Rep K M Hn H) {p : Addr × Cell} (hp : p ∈ M) (h : H a = none) : p.1 ≠ a := by
  obtain ⟨o, e⟩ := (R.cell p hp).2.there
  exact ne_of_none e h
/-- a new object, data -/
theorem Rep.alloc (R : Rep K M Hn H) (h : H a = none) : Rep K M (upd Hn a o) (upd H a o) := by
  have hn := R.nn h
  refine ⟨fun b u e => ?_, fun p hp => ?_, R.nd⟩
  · by_cases hb : b = a
    · subst hb
      rw [upd_same] at e ⊢
      exact e
    · rw [upd_ne hb] at e ⊢
      exact R.sub b u e
  · have ne := R.ne hp h
    obtain ⟨h1, h2⟩ := R.cell p hp
    exact ⟨by rw [upd_ne ne]; exact h1, h2.mono (same_upd hn) (upd_ne ne)⟩
theorem Step.alloc {A : List Addr} (hn : Hn a = none) (h : H a = none) : Step A Hn H (upd Hn a o) (upd H a o) := by
  refine ⟨same_upd hn, fun b u _ e => by rw [upd_ne (ne_of_none e h)]; exact e, fun b e z => ?_, fun b e n => ?_, fun b xs e => ?_⟩
  · by_cases hb : b = a
    · rw [hb, upd_same] at z
      cases z
    · rw [upd_ne hb] at z
      exact e z
  · by_cases hb : b = a
    · rw [hb]
      exact .inl h
    · rw [upd_ne hb] at n
      exact absurd e n
  · by_cases hb : b = a
    · rw [hb]
      exact .inl h
    · rw [upd_ne hb] at e
      exact .inr e
theorem SR.alloc (S : SR K B M Γ Hn H σ) (h : H a = none) : SR K B M Γ (upd Hn a o) (upd H a o) σ := by
  have hn := S.rep.nn h
  refine ⟨S.rep.alloc h, S.step.trans (Step.alloc hn h), S.loc, S.pre, fun i d e => ?_⟩
  obtain ⟨v, h1, h2⟩ := S.sl i d e
  exact ⟨v, h1, h2.mono (same_upd hn)⟩
/-- a new object, not data (an instance's own dict, a cell to be) -/
theorem Rep.allocH (R : Rep K M Hn H) (h : H a = none) : Rep K M Hn (upd H a o) :=
  ⟨R.sub.trans (same_upd h), fun p hp => ⟨(R.cell p hp).1, (R.cell p hp).2.mono (Same.refl _) (upd_ne (R.ne hp h))⟩, R.nd⟩
theorem Step.allocH {A : List Addr} (h : H a = none) : Step A Hn H Hn (upd H a o) := by
  refine ⟨Same.refl _, fun b u _ e => by rw [upd_ne (ne_of_none e h)]; exact e, fun b e z => ?_, fun b e n => absurd e n, fun b xs e => ?_⟩
  · by_cases hb : b = a
    · rw [hb, upd_same] at z
      cases z
    · rw [upd_ne hb] at z
      exact e z
  · by_cases hb : b = a
    · rw [hb]
      exact .inl h
    · rw [upd_ne hb] at e
      exact .inr e
theorem SR.allocH (S : SR K B M Γ Hn H σ) (h : H a = none) : SR K B M Γ Hn (upd H a o) σ :=
  ⟨S.rep.allocH h, S.step.trans (Step.allocH h), S.loc, S.pre, S.sl⟩
/-- what stood at the entry -/
theorem SR.old (S : SR K B M Γ Hn H σ) (h : H a = none) : B.H a = none := by
  cases q : B.H a with
  | none => rfl
  | some o => exact absurd h (S.step.there a (by rw [q]; simp))
/-- a new cell -/
theorem SR.cell {c : Cell} (S : SR K B M Γ Hn H σ) (h : H a = none) (hc : CellOk K Hn (upd H a o) a c) : SR K B (M ++ [(a, c)]) Γ Hn (upd H a o) σ := by
  have S1 := S.allocH (o := o) h
  refine ⟨⟨S1.rep.sub, fun p hp => ?_, ?_⟩, S1.step, fun p hp => ?_, ?_, S1.sl⟩
  · rcases List.mem_append.mp hp with hp | hp
    · exact S1.rep.cell p hp
    · have e := List.mem_singleton.mp hp
      subst e
      exact ⟨S.rep.nn h, hc⟩
  · rw [List.map_append]
    refine List.nodup_append.mpr ⟨S.rep.nd, by simp, fun x hx y hy => ?_⟩
    obtain ⟨p, hp, rfl⟩ := List.mem_map.mp hx
    have e : y = a := by simpa using hy
    subst e
    exact S.rep.ne hp h
  · rcases List.mem_append.mp hp with hp | hp
    · exact S.loc p hp
    · have e := List.mem_singleton.mp hp
      subst e
      exact .inr (S.old h)
  · rw [List.map_append]
    exact S.pre.trans (List.prefix_append _ _)
/-- more is known of fewer slots -/
theorem SR.slots {Γ' : Sl} {σ' : L2.St} (S : SR K B M Γ Hn H σ) (h : ∀ (i : Nat) (d : D), Γ'[i]? = some (some d) → ∃ v, σ'[i]? = some (some v) ∧ Is K Hn v d) : SR K B M Γ' Hn H σ' := ⟨S.rep, S.step, S.loc, S.pre, h⟩
theorem SR.none {σ' : L2.St} (S : SR K B M Γ Hn H σ) : SR K B M [] Hn H σ' := S.slots fun i d e => by simp at e
theorem SR.set {v : V} {d : D} {i : Nat} (S : SR K B M Γ Hn H σ) (hi : i < σ.length) (r : Is K Hn v d) : SR K B M (Γ.set i (some d)) Hn H (σ.set i (some v)) := S.slots fun j e q => by
  by_cases hj : i = j
  · subst hj
    rw [List.getElem?_set] at q
    rw [if_pos rfl] at q
    split at q
    · cases q
      exact ⟨v, by rw [List.getElem?_set_self hi], r⟩
    · cases q
  · rw [List.getElem?_set_ne hj] at q
    rw [List.getElem?_set_ne hj]
    exact S.sl j e q
/-- a cell changed -/
theorem SR.put {c c' : Cell} {k : Nat} {a : Addr} (S : SR K B M Γ Hn H σ) (hk : M[k]? = some (a, c)) (hc : CellOk K Hn (upd H a o) a c') : SR K B (M.set k (a, c')) Γ Hn (upd H a o) σ := by
  have hm : (a, c) ∈ M := List.mem_of_getElem? hk
  obtain ⟨hn, hcell⟩ := S.rep.cell _ hm
  have hn : Hn a = Option.none := hn
  have hlt := (List.getElem?_eq_some_iff.mp hk).1
  have hmap : (M.set k (a, c')).map (·.1) = M.map (·.1) := by
    rw [List.map_set]
    refine List.ext_getElem? fun j => ?_
    by_cases hj : k = j
    · subst hj
      rw [List.getElem?_set_self (by simpa using hlt), List.getElem?_map, hk]
      rfl
    · rw [List.getElem?_set_ne hj]
  have nds := S.rep.nd
  have same : ∀ b : Addr, b ≠ a → upd H a o b = H b := fun b hb => upd_ne hb
  obtain ⟨ob, hob⟩ := hcell.there
  refine ⟨⟨fun b u e => ?_, fun p hp => ?_, by rw [hmap]; exact nds⟩, ⟨S.step.nn, fun b u hb e => ?_, fun b z => ?_, S.step.new, fun b xs e => ?_⟩, fun p hp => ?_, by rw [hmap]; exact S.pre, S.sl⟩
  · have hb : b ≠ a := fun z => by rw [z, hn] at e; cases e
    rw [same b hb]
    exact S.rep.sub b u e
  · obtain ⟨j, hj⟩ := List.getElem?_of_mem hp
    by_cases hkj : k = j
    · subst hkj
      rw [List.getElem?_set_self hlt] at hj
      cases hj
      exact ⟨hn, hc⟩
    · rw [List.getElem?_set_ne hkj] at hj
      have hpM := List.mem_of_getElem? hj
      have ne : p.1 ≠ a := fun e => by
        have h1 : (M.map (·.1))[j]? = some p.1 := by rw [List.getElem?_map, hj]; rfl
        have h2 : (M.map (·.1))[k]? = some a := by rw [List.getElem?_map, hk]; rfl
        rw [e] at h1
        exact hkj (nd_ix nds h2 h1)
      exact ⟨(S.rep.cell p hpM).1, (S.rep.cell p hpM).2.mono (Same.refl _) (same _ ne)⟩
  · have hb' : b ≠ a := fun z => by
      subst z
      rcases S.loc _ hm with q | q
      · exact hb q
      · have q' : B.H b = Option.none := q
        rw [q'] at e
        cases e
    rw [same b hb']
    exact S.step.keep b u hb e
  · by_cases hb : b = a
    · intro q
      rw [hb, upd_same] at q
      cases q
    · rw [same b hb]
      exact S.step.there b z
  · by_cases hb : b = a
    · rw [hb] at e
      exact absurd e (hc.notTup xs)
    · rw [same b hb] at e
      exact S.step.nt b xs e
  · obtain ⟨j, hj⟩ := List.getElem?_of_mem hp
    by_cases hkj : k = j
    · subst hkj
      rw [List.getElem?_set_self hlt] at hj
      cases hj
      exact S.loc (a, c) hm
    · rw [List.getElem?_set_ne hkj] at hj
      exact S.loc p (List.mem_of_getElem? hj)
/-- a local cell becomes data -/
theorem SR.toData {c : Cell} {k : Nat} {a : Addr} (S : SR K B M Γ Hn H σ) (hk : M[k]? = some (a, c)) (ho : H a = some o) (hz : B.A.length ≤ k) : SR K B (M.eraseIdx k) Γ (upd Hn a o) H σ := by
  have hm : (a, c) ∈ M := List.mem_of_getElem? hk
  obtain ⟨hn, hcell⟩ := S.rep.cell _ hm
  have hn : Hn a = Option.none := hn
  have hlt := (List.getElem?_eq_some_iff.mp hk).1
  have h0 : B.H a = Option.none := by
    rcases S.loc _ hm with q | q
    · obtain ⟨r, hr⟩ := S.pre
      have q' : a ∈ B.A := q
      obtain ⟨j, hj⟩ := List.getElem?_of_mem q'
      have hj2 := (List.getElem?_eq_some_iff.mp hj).1
      have h1 : (M.map (·.1))[j]? = some a := by rw [← hr, List.getElem?_append_left hj2]; exact hj
      have h2 : (M.map (·.1))[k]? = some a := by rw [List.getElem?_map, hk]; rfl
      have := nd_ix S.rep.nd h1 h2
      omega
    · exact q
  have sn := same_upd (o := o) hn
  refine ⟨⟨fun b u e => ?_, fun p hp => ?_, ?_⟩, ⟨S.step.nn.trans sn, S.step.keep, S.step.there, fun b e n => ?_, S.step.nt⟩, fun p hp => S.loc p (List.mem_of_mem_eraseIdx hp), ?_, fun j e q => ?_⟩
  · by_cases hb : b = a
    · rw [hb, upd_same] at e
      cases e
      rw [hb]
      exact ho
    · rw [upd_ne hb] at e
      exact S.rep.sub b u e
  · have hpM := List.mem_of_mem_eraseIdx hp
    have ne : p.1 ≠ a := fun e => by
      obtain ⟨j, hj⟩ := List.getElem?_of_mem hp
      have h2 : (M.map (·.1))[k]? = some a := by rw [List.getElem?_map, hk]; rfl
      rw [List.getElem?_eraseIdx] at hj
      split at hj
      · have h1 : (M.map (·.1))[j]? = some p.1 := by rw [List.getElem?_map, hj]; rfl
        rw [e] at h1
        have := nd_ix S.rep.nd h1 h2
        omega
      · have h1 : (M.map (·.1))[j + 1]? = some p.1 := by rw [List.getElem?_map, hj]; rfl
        rw [e] at h1
        have := nd_ix S.rep.nd h1 h2
        omega
    exact ⟨by rw [upd_ne ne]; exact (S.rep.cell p hpM).1, (S.rep.cell p hpM).2.mono sn rfl⟩
  · rw [erase_map]
    exact S.rep.nd.sublist (List.eraseIdx_sublist _ _)
  · by_cases hb : b = a
    · rw [hb]
      exact .inl h0
    · rw [upd_ne hb] at n
      exact S.step.new b e n
  · obtain ⟨r, hr⟩ := S.pre
    rw [erase_map, ← hr, List.eraseIdx_append_of_length_le hz]
    exact List.prefix_append _ _
  · obtain ⟨v, h1, h2⟩ := S.sl j e q
    exact ⟨v, h1, h2.mono sn⟩
/-- a slot of raw a holds what stands for d -/
theorem SR.retype {a : Addr} {i : Nat} {d : D} (S : SR K B M Γ Hn H σ) (hs : Γ[i]? = some (some (.raw (.ref a)))) (hd : Is K Hn (.ref a) d) : SR K B M (Γ.set i (some d)) Hn H σ := S.slots fun j e q => by
  by_cases hj : i = j
  · subst hj
    have hi : i < Γ.length := (List.getElem?_eq_some_iff.mp hs).1
    rw [List.getElem?_set_self hi] at q
    cases q
    obtain ⟨v, h1, h2⟩ := S.sl i _ hs
    cases h2
    exact ⟨_, h1, hd⟩
  · rw [List.getElem?_set_ne hj] at q
    exact S.sl j e q
/-- a local cell is forgotten -/
theorem SR.drop {k : Nat} (S : SR K B M Γ Hn H σ) (hz : B.A.length ≤ k) : SR K B (M.eraseIdx k) Γ Hn H σ := by
  refine ⟨⟨S.rep.sub, fun p hp => S.rep.cell p (List.mem_of_mem_eraseIdx hp), ?_⟩, S.step, fun p hp => S.loc p (List.mem_of_mem_eraseIdx hp), ?_, S.sl⟩
  · rw [erase_map]
    exact S.rep.nd.sublist (List.eraseIdx_sublist _ _)
  · obtain ⟨r, hr⟩ := S.pre
    rw [erase_map, ← hr, List.eraseIdx_append_of_length_le hz]
    exact List.prefix_append _ _
theorem erase_last {α : Type} (l : List α) (x : α) : (l ++ [x]).eraseIdx l.length = l := by
  rw [List.eraseIdx_append_of_length_le (Nat.le_refl _), Nat.sub_self]
  simp
theorem SR.few (S : SR K B M Γ Hn H σ) : B.A.length ≤ M.length := by
  have := S.pre.length_le
  rw [List.length_map] at this
  exact this
/-- a tuple that stands is data -/
theorem SR.seen {b : Addr} {vs : List V} (S : SR K B M Γ Hn H σ) (hb : H b = some (.tup vs)) : ∃ Hn', SR K B M Γ Hn' H σ ∧ Same Hn Hn' ∧ Hn' b = some (.tup vs) := by
  cases q : Hn b with
  | some o =>
    have e := S.rep.sub b o q
    rw [hb] at e
    cases e
    exact ⟨Hn, S, Same.refl _, q⟩
  | none =>
    have sn := same_upd (o := .tup vs) q
    refine ⟨upd Hn b (.tup vs), ⟨⟨fun c u e => ?_, fun p hp => ⟨?_, (S.rep.cell p hp).2.mono sn rfl⟩, S.rep.nd⟩, ⟨S.step.nn.trans sn, S.step.keep, S.step.there, fun c e n => ?_, S.step.nt⟩, S.loc, S.pre, fun i d e => ?_⟩, sn, upd_same⟩
    · by_cases hc : c = b
      · rw [hc, upd_same] at e
        rw [hc, hb, e]
      · rw [upd_ne hc] at e
        exact S.rep.sub c u e
    · rw [upd_ne fun e => (S.rep.cell p hp).2.notTup vs (by rw [e]; exact hb)]
      exact (S.rep.cell p hp).1
    · by_cases hc : c = b
      · rw [hc]
        exact (S.step.nt b vs hb).imp id fun h => ⟨vs, h⟩
      · rw [upd_ne hc] at n
        exact S.step.new c e n
    · obtain ⟨v, h1, h2⟩ := S.sl i d e
      exact ⟨v, h1, h2.mono sn⟩
end
end DL
end

section
set_option Elab.async false
set_option linter.all false
set_option maxRecDepth 100000
set_option maxHeartbeats 4000000
/-! Judgements over plain data: expressions, tests, arguments. -/
namespace DL
open PySem PySem.Spec PyProof.Rows L2

def RunE (X : Cx) (e : Expr) (σ : L2.St) (H : Hp) (Q : VK) : Prop := ∀ pins s, Inv X pins σ H s → wpAny (model X.prog X.w) X.A (eval e X.env) (EP X pins σ Q) X.xe s
theorem pe_run {X : Cx} {e : Expr} : PE X e (RunE X e) := ⟨fun pins s σ H Q I h => h pins s I⟩
theorem run_pe {X : Cx} {e : Expr} {t : TE} (h : PE X e t) {σ : L2.St} {H : Hp} {Q : VK} (q : t σ H Q) : RunE X e σ H Q := fun pins s I => h.run pins s σ H Q I q
def RunT (X : Cx) (e : Expr) (σ : L2.St) (H : Hp) (Q : Bool → Hp → Prop) : Prop := ∀ pins s, Inv X pins σ H s → wpAny (model X.prog X.w) X.A (isTrue e X.env (eval e X.env)) (TP X pins σ Q) X.xe s
theorem pt_run {X : Cx} {e : Expr} : PT X e (RunT X e) := ⟨fun pins s σ H Q I h => h pins s I⟩
theorem run_pt {X : Cx} {e : Expr} {t : TT} (h : PT X e t) {σ : L2.St} {H : Hp} {Q : Bool → Hp → Prop} (q : t σ H Q) : RunT X e σ H Q := fun pins s I => h.run pins s σ H Q I q
def RunW (X : Cx) (e : Expr) (σ : L2.St) (H : Hp) (Q : Bool → Hp → Prop) : Prop := ∀ wh pins s, Inv X pins σ H s → wpAny (model X.prog X.w) X.A (isTrue e X.env wh) (TP X pins σ Q) X.xe s
theorem pw_run {X : Cx} {e : Expr} : PW X e (RunW X e) := ⟨fun wh pins s σ H Q I h => h wh pins s I⟩
theorem run_pw {X : Cx} {e : Expr} {t : TT} (h : PW X e t) {σ : L2.St} {H : Hp} {Q : Bool → Hp → Prop} (q : t σ H Q) : RunW X e σ H Q := fun wh pins s I => h.run wh pins s σ H Q I q
def RunA (X : Cx) (es : List Expr) (σ : L2.St) (H : Hp) (Q : List V → Hp → Prop) : Prop := ∀ pos pins s, Inv X pins σ H s → wpAny (model X.prog X.w) X.A (spliced (backTo pos (starEach es X.env))) (AP X pins σ Q) X.xe s
theorem pa_run {X : Cx} {es : List Expr} : PA X es (RunA X es) := ⟨fun pos pins s σ H Q I h => h pos pins s I⟩
theorem run_pa {X : Cx} {es : List Expr} {t : TA} (h : PA X es t) {σ : L2.St} {H : Hp} {Q : List V → Hp → Prop} (q : t σ H Q) : RunA X es σ H Q := fun pos pins s I => h.run pos pins s σ H Q I q

/-- an exception in the air with this class, dict, slots, heap is one that the body's end takes -/
def AirOk (X : Cx) (cls : Value) (d : Option Addr) (σ : L2.St) (H : Hp) : Prop := ∀ u s', XE X (fun c' d' σ' H' => c' = cls ∧ d' = d ∧ σ' = σ ∧ H' = H) u s' → X.xe u s'
theorem takes_air {X : Cx} : Takes X (fun c d σ H => AirOk X c d σ H) := fun u s' ⟨a, B, sI, pins, σ, H, cls, d, e, I, nb, up, sky, na, os, ag, w⟩ =>
  w u s' ⟨a, B, sI, pins, σ, H, cls, d, e, I, nb, up, sky, na, os, ag, rfl, rfl, rfl, rfl⟩
theorem air_of {X : Cx} {W : WX} (tk : Takes X W) {cls : Value} {d : Option Addr} {σ : L2.St} {H : Hp} (w : W cls d σ H) : AirOk X cls d σ H := fun u s' x =>
  (tk.imp (W' := fun c' d' σ' H' => c' = cls ∧ d' = d ∧ σ' = σ ∧ H' = H) fun c d' σ' H' ⟨e1, e2, e3, e4⟩ => by subst e1 e2 e3 e4; exact w) u s' x
/-- an exception: its class, its fields -/
abbrev Exn := Addr × List (Str × D)
def ExIs (K : PySem.W.Frag) (Hn : Hp) (cls : Value) (dd : Option Addr) (x : Exn) : Prop :=
  cls = .ref x.1 ∧ ((dd = none ∧ x.2 = []) ∨ ∃ d vs, dd = some d ∧ Hn d = some (.xd vs) ∧ IsF K Hn vs x.2)

/-- the wish about what leaves: of x, at the memory -/
abbrev XP := Exn → Mem → Prop
def Air (X : Cx) (B : Bas) (Γ : Sl) (Hn : Hp) (σ : L2.St) (Ψ : XP) : Prop := ∀ (x : Exn) M' Hn' H' cls dd, Ψ x M' → SR X.K B M' Γ Hn' H' σ → Same Hn Hn' → ExIs X.K Hn' cls dd x → AirOk X cls dd σ H'
theorem Air.mono {X : Cx} {B : Bas} {Γ : Sl} {Hn Hn' : Hp} {σ : L2.St} {Ψ : XP} (h : Air X B Γ Hn σ Ψ) (e : Same Hn Hn') : Air X B Γ Hn' σ Ψ := fun x M' Hn2 H' cls dd p S e2 => h x M' Hn2 H' cls dd p S (e.trans e2)

/-- e hands back data of which Φ holds -/
def JE (X : Cx) (Γ : Sl) (M : Mem) (e : Expr) (Φ : D → Mem → Prop) (Ψ : XP) : Prop :=
  ∀ B Hn H σ, SR X.K B M Γ Hn H σ → Air X B Γ Hn σ Ψ → ∀ Q : VK, (∀ v d M' Hn' H', Φ d M' → SR X.K B M' Γ Hn' H' σ → Same Hn Hn' → Is X.K Hn' v d → Q v H') → RunE X e σ H Q
def JT (X : Cx) (Γ : Sl) (M : Mem) (e : Expr) (Φ : Bool → Mem → Prop) (Ψ : XP) : Prop :=
  ∀ B Hn H σ, SR X.K B M Γ Hn H σ → Air X B Γ Hn σ Ψ → ∀ Q : Bool → Hp → Prop, (∀ b M' Hn' H', Φ b M' → SR X.K B M' Γ Hn' H' σ → Same Hn Hn' → Q b H') → RunT X e σ H Q
def JW (X : Cx) (Γ : Sl) (M : Mem) (e : Expr) (Φ : Bool → Mem → Prop) (Ψ : XP) : Prop :=
  ∀ B Hn H σ, SR X.K B M Γ Hn H σ → Air X B Γ Hn σ Ψ → ∀ Q : Bool → Hp → Prop, (∀ b M' Hn' H', Φ b M' → SR X.K B M' Γ Hn' H' σ → Same Hn Hn' → Q b H') → RunW X e σ H Q
def JA (X : Cx) (Γ : Sl) (M : Mem) (es : List Expr) (Φ : List D → Mem → Prop) (Ψ : XP) : Prop :=
  ∀ B Hn H σ, SR X.K B M Γ Hn H σ → Air X B Γ Hn σ Ψ → ∀ Q : List V → Hp → Prop, (∀ vs ds M' Hn' H', Φ ds M' → SR X.K B M' Γ Hn' H' σ → Same Hn Hn' → IsA X.K Hn' vs ds → Q vs H') → RunA X es σ H Q

section
variable {X : Cx} {Γ : Sl} {M : Mem} {Φ : D → Mem → Prop} {Ψ : XP} {a b c : Expr} {es : List Expr} {pos p pos2 : Pos} {Φb : Bool → Mem → Prop}
theorem JE.imp {e : Expr} {Φ' : D → Mem → Prop} (h : JE X Γ M e Φ Ψ) (i : ∀ d M', Φ d M' → Φ' d M') : JE X Γ M e Φ' Ψ := fun B Hn H σ S A Q q => h B Hn H σ S A Q fun v d M' Hn' H' p => q v d M' Hn' H' (i d M' p)

/-! ### names and constants -/
theorem je_var (i : Nat) {x : Str} {d : D} (hd' : Γ[i]? = some (some d)) (h : Φ d M) (hN : X.N[i]? = some x := by rfl) (hv : Vis X.env.scope x := by first | exact Or.inl rfl | exact Or.inr (Or.inl rfl) | exact Or.inr (Or.inr rfl))
    (hd : (x == ("__debug__" : Str)) = false := by decide) (hcd : (x == ("__classdict__" : Str)) = false := by decide) : JE X Γ M (.Name x pos) Φ Ψ := fun B Hn H σ S A Q q => by
  obtain ⟨v, h1, h2⟩ := S.sl i d hd'
  exact run_pe (pe_var hN hv hd hcd) ⟨v, h1, q v d M Hn H h S (Same.refl _) h2⟩
theorem je_int {i : Int} {j} (h : Φ (.int i) M) : JE X Γ M (.Constant (.int i) j pos) Φ Ψ := fun B Hn H σ S A Q q => run_pe pe_int (q _ _ M Hn H h S (Same.refl _) (.int i))
theorem je_bl {i : Bool} {j} (h : Φ (.bl i) M) : JE X Γ M (.Constant (.bool i) j pos) Φ Ψ := fun B Hn H σ S A Q q => run_pe pe_bl (q _ _ M Hn H h S (Same.refl _) (.bl i))
theorem je_non {j} (h : Φ .non M) : JE X Γ M (.Constant .none j pos) Φ Ψ := fun B Hn H σ S A Q q => run_pe pe_non (q _ _ M Hn H h S (Same.refl _) .non)
theorem je_str {x : Str} {j} (h : Φ (.str x) M) : JE X Γ M (.Constant (.str x) j pos) Φ Ψ := fun B Hn H σ S A Q q => run_pe pe_str (q _ _ M Hn H h S (Same.refl _) (.str x))
/-- a module's name as a value -/
theorem je_glob {x : Str} {v : V} {u : Value} {d : D} (hm : X.mg x = some u) (r : RelV v u) (hi : ∀ Hn, Is X.K Hn v d) (h : Φ d M) (hg : Gl X x := by rfl) (hd : (x == ("__debug__" : Str)) = false := by decide) : JE X Γ M (.Name x pos) Φ Ψ :=
  fun B Hn H σ S A Q q => run_pe (pe_glob hg hm r hd) (q _ _ M Hn H h S (Same.refl _) (hi Hn))
/-- a built-in's name as a value -/
theorem je_bltn {x : Str} {v : V} {u : Value} (hm : X.mg x = none) (hv : bootBuiltins x = some u) (r : RelV v u) (h : Φ (.raw v) M) (hg : Gl X x := by rfl) (hn : x ≠ "__name__" := by decide) (hd : (x == ("__debug__" : Str)) = false := by decide) : JE X Γ M (.Name x pos) Φ Ψ :=
  fun B Hn H σ S A Q q => run_pe (pe_bltn hg hm hv r hn hd) (q _ _ M Hn H h S (Same.refl _) (.raw v))

/-! ### arguments, displays -/
theorem ja_nil {Φ : List D → Mem → Prop} (h : Φ [] M) : JA X Γ M [] Φ Ψ := fun B Hn H σ S A Q q => run_pa pa_nil (q [] [] M Hn H h S (Same.refl _) .nil)
theorem ja_cons {Φ : List D → Mem → Prop} (h : JE X Γ M a (fun d M1 => JA X Γ M1 es (fun ds M2 => Φ (d :: ds) M2) Ψ) Ψ) (hs : starEach (a :: es) X.env = (false, eval a X.env) :: starEach es X.env := by rfl) : JA X Γ M (a :: es) Φ Ψ := fun B Hn H σ S A Q q => by
  refine run_pa (pa_cons pe_run pa_run hs) ?_
  refine h B Hn H σ S A _ fun v d M1 Hn1 H1 p S1 e1 r1 => ?_
  refine p B Hn1 H1 σ S1 (A.mono e1) _ fun vs ds M2 Hn2 H2 p2 S2 e2 r2 => ?_
  exact q _ _ M2 Hn2 H2 p2 S2 (e1.trans e2) (.cons (r1.mono e2) r2)
theorem je_tup (h : JA X Γ M es (fun ds M1 => ds.length ≤ 1000000 ∧ Φ (.tup ds) M1) Ψ) {x1} : JE X Γ M (.Tuple es x1 pos) Φ Ψ := fun B Hn H σ S A Q q => by
  refine run_pe (pe_tup pa_run) ?_
  refine h B Hn H σ S A _ fun vs ds M1 Hn1 H1 p S1 e1 r1 => ⟨?_, fun t ht => ?_⟩
  · rw [r1.length, sizeLine_eq]
    have := p.1
    omega
  · have hn := S1.rep.nn ht
    exact q _ _ M1 _ _ p.2 (S1.alloc ht) (e1.trans (same_upd hn)) (.tup (.inl upd_same) (r1.mono (same_upd hn)))
/-- a list that does not change any more -/
theorem je_lst (h : JA X Γ M es (fun ds M1 => ds.length ≤ 1000000 ∧ Φ (.lst ds) M1) Ψ) : JE X Γ M (.List es pos) Φ Ψ := fun B Hn H σ S A Q q => by
  refine run_pe (pe_lst pa_run) ?_
  refine h B Hn H σ S A _ fun vs ds M1 Hn1 H1 p S1 e1 r1 => ⟨?_, fun t ht => ?_⟩
  · rw [r1.length, sizeLine_eq]
    have := p.1
    omega
  · have hn := S1.rep.nn ht
    exact q _ _ M1 _ _ p.2 (S1.alloc ht) (e1.trans (same_upd hn)) (.lst upd_same (r1.mono (same_upd hn)))
/-- a list that may change: a new cell -/
theorem je_lstC (h : JA X Γ M es (fun ds M1 => ds.length ≤ 1000000 ∧ ∀ t, Φ (.raw (.ref t)) (M1 ++ [(t, .lst ds)])) Ψ) : JE X Γ M (.List es pos) Φ Ψ := fun B Hn H σ S A Q q => by
  refine run_pe (pe_lst pa_run) ?_
  refine h B Hn H σ S A _ fun vs ds M1 Hn1 H1 p S1 e1 r1 => ⟨?_, fun t ht => ?_⟩
  · rw [r1.length, sizeLine_eq]
    have := p.1
    omega
  · exact q _ _ _ _ _ (p.2 t) (S1.cell ht ⟨vs, upd_same, r1⟩) e1 (.raw _)
theorem je_dKC (h : ∀ t, Φ (.raw (.ref t)) (M ++ [(t, .dK [])])) : JE X Γ M (.Dict [] [] pos) Φ Ψ := fun B Hn H σ S A Q q => by
  refine run_pe pe_dnewK fun t ht => ?_
  exact q _ _ _ _ _ (h t) (S.cell ht ⟨[], upd_same, .nil⟩) (Same.refl _) (.raw _)
theorem je_dTC (h : ∀ t, Φ (.raw (.ref t)) (M ++ [(t, .dT [])])) : JE X Γ M (.Dict [] [] pos) Φ Ψ := fun B Hn H σ S A Q q => by
  refine run_pe pe_dnewT fun t ht => ?_
  exact q _ _ _ _ _ (h t) (S.cell ht ⟨[], upd_same, .nil⟩) (Same.refl _) (.raw _)
/-- {} as data -/
theorem je_d0 (h : Φ (.dK []) M) : JE X Γ M (.Dict [] [] pos) Φ Ψ := fun B Hn H σ S A Q q => by
  refine run_pe pe_dnewK fun t ht => ?_
  have hn := S.rep.nn ht
  exact q _ _ _ _ _ h (S.alloc ht) (same_upd hn) (.dK upd_same .nil)

/-! ### tests -/
theorem jt_val (h : JE X Γ M a (fun d M1 => ∃ b, d = .bl b ∧ Φb b M1) Ψ) (he : ∀ whole, isTrue a X.env whole = (do let v ← whole; standAt a.pos; holding [v] (truthy v)) := by intro _; rfl) : JT X Γ M a Φb Ψ := fun B Hn H σ S A Q q => by
  refine run_pt (pt_val pe_run he) ?_
  refine h B Hn H σ S A _ fun v d M1 Hn1 H1 p S1 e1 r1 => ?_
  obtain ⟨k, rfl, p⟩ := p
  cases r1
  exact ⟨k, rfl, q k M1 Hn1 H1 p S1 e1⟩
/-- what data is true -/
def tru : D → Option Bool
  | .non => some false
  | .bl b => some b
  | .int i => some (i != 0)
  | .str x => some ((x.length : Int) != 0)
  | .lst xs => some (!xs.isEmpty)
  | .tup xs => some (!xs.isEmpty)
  | _ => none
def small : D → Prop
  | .str x => x.length ≤ 1000000
  | _ => True
theorem tru_of {K : PySem.W.Frag} {Hn H : Hp} {v : V} {d : D} {k : Bool} (r : Is K Hn v d) (e : Same Hn H) (h : tru d = some k) (hs : small d) : TruV K v H k := by
  have line : (1000000 : Nat) ≤ sizeLine := by rw [sizeLine_eq]; omega
  cases r with
  | non => cases h; rfl
  | bl b => cases h; rfl
  | int i => cases h; rfl
  | str x => cases h; exact ⟨Nat.le_trans hs line, rfl⟩
  | @tup _ vs ds t r =>
    cases h
    refine .inr (.inl ⟨vs, same_t e t, ?_⟩)
    cases r <;> rfl
  | @lst _ vs ds t r =>
    cases h
    refine .inl ⟨vs, SqL.of (e _ _ t), ?_⟩
    cases r <;> rfl
  | dK _ _ => cases h
  | dT _ _ => cases h
  | ins _ _ => cases h
  | raw _ => cases h
  | exc _ _ => cases h
theorem jt_truth (h : JE X Γ M a (fun d M1 => small d ∧ ∃ b, tru d = some b ∧ Φb b M1) Ψ) (he : ∀ whole, isTrue a X.env whole = (do let v ← whole; standAt a.pos; holding [v] (truthy v)) := by intro _; rfl) : JT X Γ M a Φb Ψ := fun B Hn H σ S A Q q => by
  refine run_pt (pt_truth pe_run he) ?_
  refine h B Hn H σ S A _ fun v d M1 Hn1 H1 p S1 e1 r1 => ?_
  obtain ⟨hs, k, hk, p⟩ := p
  exact ⟨k, tru_of r1 S1.rep.sub hk hs, q k M1 Hn1 H1 p S1 e1⟩
theorem jt_not (h : JT X Γ M a (fun b M1 => Φb (!b) M1) Ψ) : JT X Γ M (.UnaryOp .Not a pos) Φb Ψ := fun B Hn H σ S A Q q => by
  refine run_pt (pt_not pt_run) ?_
  exact h B Hn H σ S A _ fun k M1 Hn1 H1 p S1 e1 => q _ M1 Hn1 H1 p S1 e1
theorem jt_w (h : JW X Γ M a Φb Ψ) : JT X Γ M a Φb Ψ := fun B Hn H σ S A Q q => run_pt (pw_run).pt (h B Hn H σ S A Q q)
theorem jw_and1 (h : JT X Γ M a Φb Ψ) : JW X Γ M (.BoolOp .And [a] pos) Φb Ψ := fun B Hn H σ S A Q q => run_pw (pw_and1 pt_run) (h B Hn H σ S A Q q)
theorem jw_or1 (h : JT X Γ M a Φb Ψ) : JW X Γ M (.BoolOp .Or [a] pos) Φb Ψ := fun B Hn H σ S A Q q => run_pw (pw_or1 pt_run) (h B Hn H σ S A Q q)
theorem jw_and {rest : List Expr} (h : JT X Γ M a (fun k M1 => if k = true then JW X Γ M1 (.BoolOp .And (b :: rest) pos) Φb Ψ else Φb false M1) Ψ) : JW X Γ M (.BoolOp .And (a :: b :: rest) pos) Φb Ψ := fun B Hn H σ S A Q q => by
  refine run_pw (pw_and pt_run pw_run) ?_
  refine h B Hn H σ S A _ fun k M1 Hn1 H1 p S1 e1 => ?_
  cases k with
  | true =>
    rw [if_pos rfl] at p
    rw [if_pos rfl]
    exact p B Hn1 H1 σ S1 (A.mono e1) Q fun k2 M2 Hn2 H2 p2 S2 e2 => q k2 M2 Hn2 H2 p2 S2 (e1.trans e2)
  | false =>
    rw [if_neg Bool.false_ne_true] at p
    rw [if_neg Bool.false_ne_true]
    exact q _ _ _ _ p S1 e1
theorem jw_or {rest : List Expr} (h : JT X Γ M a (fun k M1 => if k = true then Φb true M1 else JW X Γ M1 (.BoolOp .Or (b :: rest) pos) Φb Ψ) Ψ) : JW X Γ M (.BoolOp .Or (a :: b :: rest) pos) Φb Ψ := fun B Hn H σ S A Q q => by
  refine run_pw (pw_or pt_run pw_run) ?_
  refine h B Hn H σ S A _ fun k M1 Hn1 H1 p S1 e1 => ?_
  cases k with
  | true =>
    rw [if_pos rfl] at p
    rw [if_pos rfl]
    exact q _ _ _ _ p S1 e1
  | false =>
    rw [if_neg Bool.false_ne_true] at p
    rw [if_neg Bool.false_ne_true]
    exact p B Hn1 H1 σ S1 (A.mono e1) Q fun k2 M2 Hn2 H2 p2 S2 e2 => q k2 M2 Hn2 H2 p2 S2 (e1.trans e2)
/-! ### the same as values (truth values) -/
theorem je_one {op} (h : JE X Γ M a Φ Ψ) : JE X Γ M (.BoolOp op [a] pos) Φ Ψ := fun B Hn H σ S A Q q => run_pe (pe_one pe_run) (h B Hn H σ S A Q q)
theorem je_and {rest : List Expr} (h : JE X Γ M a (fun d M1 => ∃ k, d = .bl k ∧ if k = true then JE X Γ M1 (.BoolOp .And (b :: rest) pos) Φ Ψ else Φ (.bl false) M1) Ψ) : JE X Γ M (.BoolOp .And (a :: b :: rest) pos) Φ Ψ := fun B Hn H σ S A Q q => by
  refine run_pe (pe_and pe_run pe_run) ?_
  refine h B Hn H σ S A _ fun v d M1 Hn1 H1 p S1 e1 r1 => ?_
  obtain ⟨k, rfl, p⟩ := p
  cases r1
  refine ⟨k, rfl, ?_⟩
  cases k with
  | true =>
    rw [if_pos rfl] at p
    rw [if_pos rfl]
    exact p B Hn1 H1 σ S1 (A.mono e1) Q fun v2 d2 M2 Hn2 H2 p2 S2 e2 r2 => q v2 d2 M2 Hn2 H2 p2 S2 (e1.trans e2) r2
  | false =>
    rw [if_neg Bool.false_ne_true] at p
    rw [if_neg Bool.false_ne_true]
    exact q _ _ _ _ _ p S1 e1 (.bl false)
theorem je_or {rest : List Expr} (h : JE X Γ M a (fun d M1 => ∃ k, d = .bl k ∧ if k = true then Φ (.bl true) M1 else JE X Γ M1 (.BoolOp .Or (b :: rest) pos) Φ Ψ) Ψ) : JE X Γ M (.BoolOp .Or (a :: b :: rest) pos) Φ Ψ := fun B Hn H σ S A Q q => by
  refine run_pe (pe_or pe_run pe_run) ?_
  refine h B Hn H σ S A _ fun v d M1 Hn1 H1 p S1 e1 r1 => ?_
  obtain ⟨k, rfl, p⟩ := p
  cases r1
  refine ⟨k, rfl, ?_⟩
  cases k with
  | true =>
    rw [if_pos rfl] at p
    rw [if_pos rfl]
    exact q _ _ _ _ _ p S1 e1 (.bl true)
  | false =>
    rw [if_neg Bool.false_ne_true] at p
    rw [if_neg Bool.false_ne_true]
    exact p B Hn1 H1 σ S1 (A.mono e1) Q fun v2 d2 M2 Hn2 H2 p2 S2 e2 r2 => q v2 d2 M2 Hn2 H2 p2 S2 (e1.trans e2) r2
theorem je_not (h : JE X Γ M a (fun d M1 => ∃ k, d = .bl k ∧ Φ (.bl (!k)) M1) Ψ) : JE X Γ M (.UnaryOp .Not a pos) Φ Ψ := fun B Hn H σ S A Q q => by
  refine run_pe (pe_not pe_run) ?_
  refine h B Hn H σ S A _ fun v d M1 Hn1 H1 p S1 e1 r1 => ?_
  obtain ⟨k, rfl, p⟩ := p
  cases r1
  exact ⟨k, rfl, q _ _ _ _ _ p S1 e1 (.bl _)⟩
theorem je_ifExp (h : JT X Γ M c (fun k M1 => if k = true then JE X Γ M1 a Φ Ψ else JE X Γ M1 b Φ Ψ) Ψ) : JE X Γ M (.IfExp c a b pos) Φ Ψ := fun B Hn H σ S A Q q => by
  refine run_pe (pe_ifExp pt_run pe_run pe_run) ?_
  refine h B Hn H σ S A _ fun k M1 Hn1 H1 p S1 e1 => ?_
  cases k with
  | true =>
    rw [if_pos rfl] at p
    rw [if_pos rfl]
    exact p B Hn1 H1 σ S1 (A.mono e1) Q fun v2 d2 M2 Hn2 H2 p2 S2 e2 r2 => q v2 d2 M2 Hn2 H2 p2 S2 (e1.trans e2) r2
  | false =>
    rw [if_neg Bool.false_ne_true] at p
    rw [if_neg Bool.false_ne_true]
    exact p B Hn1 H1 σ S1 (A.mono e1) Q fun v2 d2 M2 Hn2 H2 p2 S2 e2 r2 => q v2 d2 M2 Hn2 H2 p2 S2 (e1.trans e2) r2

/-! ### operators: what two data give -/
/-- an operator's rule by its reading -/
def OpD (X : Cx) (f : Value → Value → Sem Value) (x y : D) (M : Mem) (Φ : D → Mem → Prop) : Prop :=
  ∀ B Γ Hn H σ v u (Q : VK), SR X.K B M Γ Hn H σ → Is X.K Hn v x → Is X.K Hn u y → (∀ z d M' Hn' H', Φ d M' → SR X.K B M' Γ Hn' H' σ → Same Hn Hn' → Is X.K Hn' z d → Q z H') → ∃ r : R2, OpR X f r ∧ r v u H Q
def rAny (X : Cx) (f : Value → Value → Sem Value) : R2 := fun v u H Q => ∃ r : R2, OpR X f r ∧ r v u H Q
theorem op_any {X : Cx} {f : Value → Value → Sem Value} : OpR X f (rAny X f) := by
  intro pins s σ H x y u v Q I rx ry h
  obtain ⟨r, hr, h⟩ := h
  exact hr pins s σ H x y u v Q I rx ry h
theorem je_op {op : Operator} (h : JE X Γ M a (fun x M1 => JE X Γ M1 b (fun y M2 => OpD X (binaryOp op) x y M2 Φ) Ψ) Ψ) : JE X Γ M (.BinOp a op b pos) Φ Ψ := fun B Hn H σ S A Q q => by
  refine run_pe (pe_op op_any pe_run pe_run) ?_
  refine h B Hn H σ S A _ fun v d M1 Hn1 H1 p S1 e1 r1 => ?_
  refine p B Hn1 H1 σ S1 (A.mono e1) _ fun u d2 M2 Hn2 H2 p2 S2 e2 r2 => ?_
  exact p2 B Γ Hn2 H2 σ v u Q S2 (r1.mono e2) r2 fun z d M' Hn' H' p3 S3 e3 r3 => q z d M' Hn' H' p3 S3 ((e1.trans e2).trans e3) r3
theorem je_cmp {op : CmpOp} (h : JE X Γ M a (fun x M1 => JE X Γ M1 b (fun y M2 => OpD X (compareOp op) x y M2 Φ) Ψ) Ψ) (hm : behindInMarks op b = false := by first | rfl | exact nomark _) : JE X Γ M (.Compare a [op] [b] pos) Φ Ψ := fun B Hn H σ S A Q q => by
  refine run_pe (pe_cmpR op_any pe_run pe_run hm) ?_
  refine h B Hn H σ S A _ fun v d M1 Hn1 H1 p S1 e1 r1 => ?_
  refine p B Hn1 H1 σ S1 (A.mono e1) _ fun u d2 M2 Hn2 H2 p2 S2 e2 r2 => ?_
  exact p2 B Γ Hn2 H2 σ v u Q S2 (r1.mono e2) r2 fun z d M' Hn' H' p3 S3 e3 r3 => q z d M' Hn' H' p3 S3 ((e1.trans e2).trans e3) r3
theorem jt_cmp {op : CmpOp} (h : JE X Γ M a (fun x M1 => JE X Γ M1 b (fun y M2 => OpD X (compareOp op) x y M2 (fun d M3 => ∃ k, d = .bl k ∧ Φb k M3)) Ψ) Ψ) (hm : behindInMarks op b = false := by first | rfl | exact nomark _) : JT X Γ M (.Compare a [op] [b] pos) Φb Ψ := fun B Hn H σ S A Q q => by
  refine run_pt (pt_cmpR op_any pe_run pe_run hm) ?_
  refine h B Hn H σ S A _ fun v d M1 Hn1 H1 p S1 e1 r1 => ?_
  refine p B Hn1 H1 σ S1 (A.mono e1) _ fun u d2 M2 Hn2 H2 p2 S2 e2 r2 => ?_
  refine p2 B Γ Hn2 H2 σ v u _ S2 (r1.mono e2) r2 fun z d M' Hn' H' p3 S3 e3 r3 => ?_
  obtain ⟨k, rfl, p3⟩ := p3
  cases r3
  exact ⟨k, rfl, q k M' Hn' H' p3 S3 ((e1.trans e2).trans e3)⟩
theorem jt_chain {op op' : CmpOp} (h : JE X Γ M a (fun x M1 => JE X Γ M1 b (fun y M2 => OpD X (compareOp op) x y M2 (fun d M3 => ∃ k, d = .bl k ∧ if k = true then JE X Γ M3 c (fun z M4 => OpD X (compareOp op') y z M4 (fun d M5 => ∃ k, d = .bl k ∧ Φb k M5)) Ψ else Φb false M3)) Ψ) Ψ) (hm : lastMarks [op, op'] [b, c] = false := by rfl) :
    JT X Γ M (.Compare a [op, op'] [b, c] pos) Φb Ψ := fun B Hn H σ S A Q q => by
  refine run_pt (pt_chain op_any op_any pe_run pe_run pe_run (hm := hm)) ?_
  refine h B Hn H σ S A _ fun v d M1 Hn1 H1 p S1 e1 r1 => ?_
  refine p B Hn1 H1 σ S1 (A.mono e1) _ fun u d2 M2 Hn2 H2 p2 S2 e2 r2 => ?_
  refine p2 B Γ Hn2 H2 σ v u _ S2 (r1.mono e2) r2 fun z d M3 Hn3 H3 p3 S3 e3 r3 => ?_
  obtain ⟨k, rfl, p3⟩ := p3
  cases r3
  refine ⟨k, rfl, ?_⟩
  cases k with
  | true =>
    rw [if_pos rfl] at p3
    rw [if_pos rfl]
    refine p3 B Hn3 H3 σ S3 (A.mono ((e1.trans e2).trans e3)) _ fun w d4 M4 Hn4 H4 p4 S4 e4 r4 => ?_
    refine p4 B Γ Hn4 H4 σ u w _ S4 ((r2.mono e3).mono e4) r4 fun z d M' Hn' H' p5 S5 e5 r5 => ?_
    obtain ⟨k, rfl, p5⟩ := p5
    cases r5
    exact ⟨k, rfl, q k M' Hn' H' p5 S5 ((((e1.trans e2).trans e3).trans e4).trans e5)⟩
  | false =>
    rw [if_neg Bool.false_ne_true] at p3
    rw [if_neg Bool.false_ne_true]
    exact ⟨false, rfl, q _ _ _ _ p3 S3 ((e1.trans e2).trans e3)⟩
theorem je_chain {op op' : CmpOp} (h : JE X Γ M a (fun x M1 => JE X Γ M1 b (fun y M2 => OpD X (compareOp op) x y M2 (fun d M3 => ∃ k, d = .bl k ∧ if k = true then JE X Γ M3 c (fun z M4 => OpD X (compareOp op') y z M4 Φ) Ψ else Φ (.bl false) M3)) Ψ) Ψ) (hm : lastMarks [op, op'] [b, c] = false := by rfl) :
    JE X Γ M (.Compare a [op, op'] [b, c] pos) Φ Ψ := fun B Hn H σ S A Q q => by
  refine run_pe (pe_chain op_any op_any pe_run pe_run pe_run (hm := hm)) ?_
  refine h B Hn H σ S A _ fun v d M1 Hn1 H1 p S1 e1 r1 => ?_
  refine p B Hn1 H1 σ S1 (A.mono e1) _ fun u d2 M2 Hn2 H2 p2 S2 e2 r2 => ?_
  refine p2 B Γ Hn2 H2 σ v u _ S2 (r1.mono e2) r2 fun z d M3 Hn3 H3 p3 S3 e3 r3 => ?_
  obtain ⟨k, rfl, p3⟩ := p3
  cases r3
  refine ⟨k, rfl, ?_⟩
  cases k with
  | true =>
    rw [if_pos rfl] at p3
    rw [if_pos rfl]
    refine p3 B Hn3 H3 σ S3 (A.mono ((e1.trans e2).trans e3)) _ fun w d4 M4 Hn4 H4 p4 S4 e4 r4 => ?_
    exact p4 B Γ Hn4 H4 σ u w _ S4 ((r2.mono e3).mono e4) r4 fun z d M' Hn' H' p5 S5 e5 r5 => q _ _ _ _ _ p5 S5 ((((e1.trans e2).trans e3).trans e4).trans e5) r5
  | false =>
    rw [if_neg Bool.false_ne_true] at p3
    rw [if_neg Bool.false_ne_true]
    exact q _ _ _ _ _ p3 S3 ((e1.trans e2).trans e3) (.bl false)
end
end DL
end

section
set_option Elab.async false
set_option linter.all false
set_option maxRecDepth 100000
set_option maxHeartbeats 4000000
/-! Operators, subscripts, built-ins over data. -/
namespace DL
open PySem PySem.Spec PyProof.Rows L2

noncomputable instance : DecidableEq D := fun a b => Classical.propDecidable (a = b)
theorem keyD_inj {a b : Key} (h : keyD a = keyD b) : a = b := by
  cases a <;> cases b <;> simp [keyD] at h <;> rw [h]
theorem keysD_inj : ∀ {a b : List Key}, a.map keyD = b.map keyD → a = b
  | [], [], _ => rfl
  | [], _ :: _, h => by simp at h
  | _ :: _, [], h => by simp at h
  | x :: a, y :: b, h => by
    simp only [List.map_cons, List.cons.injEq] at h
    rw [keyD_inj h.1, keysD_inj h.2]
def tkD (k : List Key) : D := .tup (k.map keyD)
theorem tkD_inj {a b : List Key} (h : tkD a = tkD b) : a = b := keysD_inj (by simpa [tkD] using h)
noncomputable def lkD (kvs : List (D × D)) (k : D) : Option D := (kvs.find? fun kv => decide (kv.1 = k)).map (·.2)
noncomputable def ptD (kvs : List (D × D)) (k d : D) : List (D × D) := if (kvs.any fun kv => decide (kv.1 = k)) = true then kvs.map (fun kv => if kv.1 = k then (kv.1, d) else kv) else kvs ++ [(k, d)]
section
variable {K : PySem.W.Frag} {H : Hp}
theorem IsK.get : ∀ {ks : List (Key × V)} {ds : List (D × D)} (k : Key), IsK K H ks ds → (∃ v d, valV ks k = some v ∧ lkD ds (keyD k) = some d ∧ Is K H v d) ∨ (valV ks k = none ∧ lkD ds (keyD k) = none)
  | _, _, k, .nil => .inr ⟨rfl, rfl⟩
  | _, _, k, .cons (k := j) (v := v) (d := d) (vs := vs) (ds := ds) a b => by
    by_cases h : j = k
    · refine .inl ⟨v, d, valV_pos h, ?_, a⟩
      unfold lkD
      rw [List.find?_cons_of_pos (by simp [h])]
      rfl
    · have e1 : valV ((j, v) :: vs) k = valV vs k := valV_neg h
      have e2 : lkD ((keyD j, d) :: ds) (keyD k) = lkD ds (keyD k) := by
        unfold lkD
        rw [List.find?_cons_of_neg (by simpa using fun z => h (keyD_inj z))]
      rw [e1, e2]
      exact IsK.get k b
theorem IsT.get : ∀ {ks : List (List Key × V)} {ds : List (D × D)} (k : List Key), IsT K H ks ds → (∃ v d, valV ks k = some v ∧ lkD ds (tkD k) = some d ∧ Is K H v d) ∨ (valV ks k = none ∧ lkD ds (tkD k) = none)
  | _, _, k, .nil => .inr ⟨rfl, rfl⟩
  | _, _, k, .cons (k := j) (v := v) (d := d) (vs := vs) (ds := ds) a b => by
    by_cases h : j = k
    · refine .inl ⟨v, d, valV_pos h, ?_, a⟩
      unfold lkD
      rw [List.find?_cons_of_pos (by simp [h, tkD])]
      rfl
    · have e1 : valV ((j, v) :: vs) k = valV vs k := valV_neg h
      have e2 : lkD ((.tup (j.map keyD), d) :: ds) (tkD k) = lkD ds (tkD k) := by
        unfold lkD
        rw [List.find?_cons_of_neg (by show ¬ decide (tkD j = tkD k) = true; simpa using fun z => h (tkD_inj z))]
      rw [e1, e2]
      exact IsT.get k b
theorem IsK.put {v : V} {d : D} (r : Is K H v d) (k : Key) {ks : List (Key × V)} {ds : List (D × D)} (h : IsK K H ks ds) : IsK K H (putK ks k v) (ptD ds (keyD k) d) := by
  have ea : ∀ {ks : List (Key × V)} {ds : List (D × D)}, IsK K H ks ds → (ks.any fun kv => decide (kv.1 = k)) = (ds.any fun kv => decide (kv.1 = keyD k)) := by
    intro ks ds h
    induction ks generalizing ds with
    | nil => cases h; rfl
    | cons p ks ih =>
      cases h with
      | cons a b =>
        simp only [List.any_cons]
        rw [ih b]
        congr 1
        exact decide_eq_decide.mpr ⟨fun z => by rw [z], fun z => keyD_inj z⟩
  have em : ∀ {ks : List (Key × V)} {ds : List (D × D)}, IsK K H ks ds → IsK K H (ks.map fun kv => if kv.1 = k then (kv.1, v) else kv) (ds.map fun kv => if kv.1 = keyD k then (kv.1, d) else kv) := by
    intro ks ds h
    induction ks generalizing ds with
    | nil => cases h; exact .nil
    | cons p ks ih =>
      cases h with
      | @cons j x y _ _ a b =>
        simp only [List.map_cons]
        by_cases hj : j = k
        · rw [if_pos hj, if_pos (by rw [hj])]
          exact .cons r (ih b)
        · rw [if_neg hj, if_neg (fun z => hj (keyD_inj z))]
          exact .cons a (ih b)
  have ep : ∀ {ks : List (Key × V)} {ds : List (D × D)}, IsK K H ks ds → IsK K H (ks ++ [(k, v)]) (ds ++ [(keyD k, d)]) := by
    intro ks ds h
    induction ks generalizing ds with
    | nil => cases h; exact .cons r .nil
    | cons p ks ih =>
      cases h with
      | cons a b => exact .cons a (ih b)
  unfold putK ptD
  rw [ea h]
  split
  · exact em h
  · exact ep h
theorem IsT.put {v : V} {d : D} (r : Is K H v d) (k : List Key) {ks : List (List Key × V)} {ds : List (D × D)} (h : IsT K H ks ds) : IsT K H (putK ks k v) (ptD ds (tkD k) d) := by
  have ea : ∀ {ks : List (List Key × V)} {ds : List (D × D)}, IsT K H ks ds → (ks.any fun kv => decide (kv.1 = k)) = (ds.any fun kv => decide (kv.1 = tkD k)) := by
    intro ks ds h
    induction ks generalizing ds with
    | nil => cases h; rfl
    | cons p ks ih =>
      cases h with
      | cons a b =>
        simp only [List.any_cons]
        rw [ih b]
        congr 1
        exact decide_eq_decide.mpr ⟨fun z => by rw [z]; rfl, fun z => tkD_inj z⟩
  have em : ∀ {ks : List (List Key × V)} {ds : List (D × D)}, IsT K H ks ds → IsT K H (ks.map fun kv => if kv.1 = k then (kv.1, v) else kv) (ds.map fun kv => if kv.1 = tkD k then (kv.1, d) else kv) := by
    intro ks ds h
    induction ks generalizing ds with
    | nil => cases h; exact .nil
    | cons p ks ih =>
      cases h with
      | @cons j x y _ _ a b =>
        simp only [List.map_cons]
        by_cases hj : j = k
        · rw [if_pos hj, if_pos (by rw [hj]; rfl)]
          exact .cons r (ih b)
        · rw [if_neg hj, if_neg (show ¬ D.tup (j.map keyD) = tkD k from fun z => hj (tkD_inj z))]
          exact .cons a (ih b)
  have ep : ∀ {ks : List (List Key × V)} {ds : List (D × D)}, IsT K H ks ds → IsT K H (ks ++ [(k, v)]) (ds ++ [(tkD k, d)]) := by
    intro ks ds h
    induction ks generalizing ds with
    | nil => cases h; exact .cons r .nil
    | cons p ks ih =>
      cases h with
      | cons a b => exact .cons a (ih b)
  unfold putK ptD
  rw [ea h]
  split
  · exact em h
  · exact ep h
end

/-! ### data as the library's plain data -/
mutual
def py : D → PyData
  | .non => .none
  | .bl b => .bool b
  | .int i => .int i
  | .str x => .str x
  | .tup xs => .tuple (pyA xs)
  | .lst xs => .list (pyA xs)
  | .dK _ => .none
  | .dT _ => .none
  | .ins _ _ => .none
  | .raw _ => .none
  | .exc _ _ _ _ => .none
def pyA : List D → List PyData
  | [] => []
  | x :: xs => py x :: pyA xs
end
mutual
def plain : D → Bool
  | .non | .bl _ | .int _ | .str _ => true
  | .tup xs => plainA xs
  | .lst xs => plainA xs
  | .dK _ | .dT _ | .ins _ _ | .raw _ | .exc _ _ _ _ => false
def plainA : List D → Bool
  | [] => true
  | x :: xs => plain x && plainA xs
end
theorem pyA_map : ∀ xs : List D, pyA xs = xs.map py
  | [] => rfl
  | x :: xs => by rw [pyA, pyA_map xs, List.map_cons]
theorem plainA_all : ∀ xs : List D, plainA xs = xs.all plain
  | [] => rfl
  | x :: xs => by rw [plainA, plainA_all xs, List.all_cons]
section
variable {K : PySem.W.Frag} {Hn H : Hp}
mutual
theorem Is.dp (e : Same Hn H) : ∀ {v : V} {d : D}, Is K Hn v d → plain d = true → Dp K H v (py d)
  | _, _, .non, _ => .non
  | _, _, .bl b, _ => .bl b
  | _, _, .int i, _ => .int i
  | _, _, .str x, _ => .str x
  | _, _, .tup h a, p => .tup (same_t e h) (IsA.dp e a (by simpa [plain] using p))
  | _, _, .lst h a, p => .lst (SqL.of (e _ _ h)) (IsA.dp e a (by simpa [plain] using p))
  | _, _, .dK h a, p => by simp [plain] at p
  | _, _, .dT h a, p => by simp [plain] at p
  | _, _, .ins h a, p => by simp [plain] at p
  | _, _, .raw v, p => by simp [plain] at p
  | _, _, .exc h a, p => by simp [plain] at p
theorem IsA.dp (e : Same Hn H) : ∀ {vs : List V} {ds : List D}, IsA K Hn vs ds → plainA ds = true → DpAll K H vs (pyA ds)
  | _, _, .nil, _ => .nil
  | _, _, .cons a b, p => .cons (Is.dp e a (by simp [plainA] at p; exact p.1)) (IsA.dp e b (by simp [plainA] at p; exact p.2))
end
end
/-- == of data -/
def eqd (x y : D) : Bool := PyData.eqv (py x) (py y)
/-- fit for == and the like -/
def fit (x : D) : Bool := plain x && SeqAt.shaped (py x)

section
variable {X : Cx} {M : Mem} {Φ : D → Mem → Prop}
theorem opd_addI {i j : Int} (h : Φ (.int (i + j)) M) : OpD X (binaryOp .Add) (.int i) (.int j) M Φ := fun B Γ Hn H σ v u Q S rx ry q => by
  cases rx; cases ry
  exact ⟨_, op_add, _, _, rfl, rfl, q _ _ _ _ _ h S (Same.refl _) (.int _)⟩
theorem opd_subI {i j : Int} (h : Φ (.int (i - j)) M) : OpD X (binaryOp .Sub) (.int i) (.int j) M Φ := fun B Γ Hn H σ v u Q S rx ry q => by
  cases rx; cases ry
  exact ⟨_, op_sub, _, _, rfl, rfl, q _ _ _ _ _ h S (Same.refl _) (.int _)⟩
theorem opd_mulI {i j : Int} (hc : CMul i j) (h : Φ (.int (i * j)) M) : OpD X (binaryOp .Mult) (.int i) (.int j) M Φ := fun B Γ Hn H σ v u Q S rx ry q => by
  cases rx; cases ry
  exact ⟨_, op_mul, _, _, rfl, rfl, hc, q _ _ _ _ _ h S (Same.refl _) (.int _)⟩
theorem opd_modI {i j : Int} (hc : 0 < j) (h : Φ (.int (i % j)) M) : OpD X (binaryOp .Mod) (.int i) (.int j) M Φ := fun B Γ Hn H σ v u Q S rx ry q => by
  cases rx; cases ry
  exact ⟨_, op_mod, _, _, rfl, rfl, hc, q _ _ _ _ _ h S (Same.refl _) (.int _)⟩
theorem opd_divI {i j : Int} (hc : CDiv i j) (h : Φ (.int (i / j)) M) : OpD X (binaryOp .FloorDiv) (.int i) (.int j) M Φ := fun B Γ Hn H σ v u Q S rx ry q => by
  cases rx; cases ry
  exact ⟨_, op_fdiv, _, _, rfl, rfl, hc, q _ _ _ _ _ h S (Same.refl _) (.int _)⟩
theorem opd_powI {i j : Int} (hc : CPow i j) (h : Φ (.int (i ^ j.toNat)) M) : OpD X (binaryOp .Pow) (.int i) (.int j) M Φ := fun B Γ Hn H σ v u Q S rx ry q => by
  cases rx; cases ry
  exact ⟨_, op_pow, _, _, rfl, rfl, hc, q _ _ _ _ _ h S (Same.refl _) (.int _)⟩
theorem opd_addS {i j : Str} (hl : i.length + j.length ≤ 1000000) (h : Φ (.str (i ++ j)) M) : OpD X (binaryOp .Add) (.str i) (.str j) M Φ := fun B Γ Hn H σ v u Q S rx ry q => by
  cases rx; cases ry
  exact ⟨_, op_add_str, _, _, rfl, rfl, by rw [sizeLine_eq]; omega, q _ _ _ _ _ h S (Same.refl _) (.str _)⟩
theorem opd_addL {xs ys : List D} (hl : xs.length + ys.length ≤ 1000000) (h : Φ (.lst (xs ++ ys)) M) : OpD X (binaryOp .Add) (.lst xs) (.lst ys) M Φ := fun B Γ Hn H σ v u Q S rx ry q => by
  cases rx with
  | lst h1 r1 =>
  cases ry with
  | lst h2 r2 =>
    refine ⟨_, op_cat, _, _, _, _, rfl, rfl, S.rep.sub _ _ h1, S.rep.sub _ _ h2, by rw [r1.length, r2.length, sizeLine_eq]; omega, fun p hp => ?_⟩
    have hn := S.rep.nn hp
    exact q _ _ _ _ _ h (S.alloc hp) (same_upd hn) (.lst upd_same ((r1.append r2).mono (same_upd hn)))
theorem opd_addT {xs ys : List D} (hl : xs.length + ys.length ≤ 1000000) (h : Φ (.tup (xs ++ ys)) M) : OpD X (binaryOp .Add) (.tup xs) (.tup ys) M Φ := fun B Γ Hn H σ v u Q S rx ry q => by
  cases rx with
  | @tup a vs _ h1 r1 =>
  cases ry with
  | @tup b us _ h2 r2 =>
    refine ⟨_, op_catA, _, _, _, _, rfl, rfl, same_t S.rep.sub h1, same_t S.rep.sub h2, by rw [r1.length, r2.length, sizeLine_eq]; omega, fun e => ?_, fun _ e => ?_, fun _ _ p hp => ?_⟩
    · subst e
      cases r1
      exact q _ _ _ _ _ h S (Same.refl _) (.tup h2 r2)
    · subst e
      cases r2
      rw [List.append_nil] at h
      exact q _ _ _ _ _ h S (Same.refl _) (.tup h1 r1)
    · have hn := S.rep.nn hp
      exact q _ _ _ _ _ h (S.alloc hp) (same_upd hn) (.tup (.inl upd_same) ((r1.append r2).mono (same_upd hn)))
theorem opd_ltI {i j : Int} (h : Φ (.bl (decide (i < j))) M) : OpD X (compareOp .Lt) (.int i) (.int j) M Φ := fun B Γ Hn H σ v u Q S rx ry q => by
  cases rx; cases ry
  exact ⟨_, op_lt, _, _, rfl, rfl, q _ _ _ _ _ h S (Same.refl _) (.bl _)⟩
theorem opd_leI {i j : Int} (h : Φ (.bl (decide (i ≤ j))) M) : OpD X (compareOp .LtE) (.int i) (.int j) M Φ := fun B Γ Hn H σ v u Q S rx ry q => by
  cases rx; cases ry
  exact ⟨_, op_le, _, _, rfl, rfl, q _ _ _ _ _ h S (Same.refl _) (.bl _)⟩
theorem opd_gtI {i j : Int} (h : Φ (.bl (decide (j < i))) M) : OpD X (compareOp .Gt) (.int i) (.int j) M Φ := fun B Γ Hn H σ v u Q S rx ry q => by
  cases rx; cases ry
  exact ⟨_, op_gt, _, _, rfl, rfl, q _ _ _ _ _ h S (Same.refl _) (.bl _)⟩
theorem opd_geI {i j : Int} (h : Φ (.bl (decide (j ≤ i))) M) : OpD X (compareOp .GtE) (.int i) (.int j) M Φ := fun B Γ Hn H σ v u Q S rx ry q => by
  cases rx; cases ry
  exact ⟨_, op_ge, _, _, rfl, rfl, q _ _ _ _ _ h S (Same.refl _) (.bl _)⟩
theorem opd_eqI {i j : Int} (h : Φ (.bl (decide (i = j))) M) : OpD X (compareOp .Eq) (.int i) (.int j) M Φ := fun B Γ Hn H σ v u Q S rx ry q => by
  cases rx; cases ry
  refine ⟨_, op_eq, rfl, ?_⟩
  rw [show decide (V.int i = V.int j) = decide (i = j) from decide_eq_decide.mpr ⟨fun z => V.int.inj z, fun z => by rw [z]⟩]
  exact q _ _ _ _ _ h S (Same.refl _) (.bl _)
theorem opd_neI {i j : Int} (h : Φ (.bl (!decide (i = j))) M) : OpD X (compareOp .NotEq) (.int i) (.int j) M Φ := fun B Γ Hn H σ v u Q S rx ry q => by
  cases rx; cases ry
  refine ⟨_, op_ne, rfl, ?_⟩
  rw [show decide (V.int i = V.int j) = decide (i = j) from decide_eq_decide.mpr ⟨fun z => V.int.inj z, fun z => by rw [z]⟩]
  exact q _ _ _ _ _ h S (Same.refl _) (.bl _)
theorem opd_eqS {i j : Str} (h : Φ (.bl (decide (i = j))) M) : OpD X (compareOp .Eq) (.str i) (.str j) M Φ := fun B Γ Hn H σ v u Q S rx ry q => by
  cases rx; cases ry
  refine ⟨_, op_eq, rfl, ?_⟩
  rw [show decide (V.str i = V.str j) = decide (i = j) from decide_eq_decide.mpr ⟨fun z => V.str.inj z, fun z => by rw [z]⟩]
  exact q _ _ _ _ _ h S (Same.refl _) (.bl _)
theorem opd_neS {i j : Str} (h : Φ (.bl (!decide (i = j))) M) : OpD X (compareOp .NotEq) (.str i) (.str j) M Φ := fun B Γ Hn H σ v u Q S rx ry q => by
  cases rx; cases ry
  refine ⟨_, op_ne, rfl, ?_⟩
  rw [show decide (V.str i = V.str j) = decide (i = j) from decide_eq_decide.mpr ⟨fun z => V.str.inj z, fun z => by rw [z]⟩]
  exact q _ _ _ _ _ h S (Same.refl _) (.bl _)
theorem opd_eqB {i j : Bool} (h : Φ (.bl (decide (i = j))) M) : OpD X (compareOp .Eq) (.bl i) (.bl j) M Φ := fun B Γ Hn H σ v u Q S rx ry q => by
  cases rx; cases ry
  refine ⟨_, op_eq, rfl, ?_⟩
  rw [show decide (V.bl i = V.bl j) = decide (i = j) from decide_eq_decide.mpr ⟨fun z => V.bl.inj z, fun z => by rw [z]⟩]
  exact q _ _ _ _ _ h S (Same.refl _) (.bl _)
theorem opd_neB {i j : Bool} (h : Φ (.bl (!decide (i = j))) M) : OpD X (compareOp .NotEq) (.bl i) (.bl j) M Φ := fun B Γ Hn H σ v u Q S rx ry q => by
  cases rx; cases ry
  refine ⟨_, op_ne, rfl, ?_⟩
  rw [show decide (V.bl i = V.bl j) = decide (i = j) from decide_eq_decide.mpr ⟨fun z => V.bl.inj z, fun z => by rw [z]⟩]
  exact q _ _ _ _ _ h S (Same.refl _) (.bl _)
/-- == of plain data of any make -/
theorem opd_eqD {x y : D} (hu : X.A.units + 64 < cLine) (hx : fit x = true) (hy : fit y = true) (h : Φ (.bl (eqd x y)) M) : OpD X (compareOp .Eq) x y M Φ := fun B Γ Hn H σ v u Q S rx ry q => by
  obtain ⟨p1, s1⟩ := Bool.and_eq_true_iff.mp hx
  obtain ⟨p2, s2⟩ := Bool.and_eq_true_iff.mp hy
  exact ⟨_, op_eqD hu, py x, py y, rx.dp S.rep.sub p1, ry.dp S.rep.sub p2, s1, s2, q _ _ _ _ _ h S (Same.refl _) (.bl _)⟩
theorem opd_neD {x y : D} (hu : X.A.units + 64 < cLine) (hx : fit x = true) (hy : fit y = true) (h : Φ (.bl (!eqd x y)) M) : OpD X (compareOp .NotEq) x y M Φ := fun B Γ Hn H σ v u Q S rx ry q => by
  obtain ⟨p1, s1⟩ := Bool.and_eq_true_iff.mp hx
  obtain ⟨p2, s2⟩ := Bool.and_eq_true_iff.mp hy
  exact ⟨_, op_neD hu, py x, py y, rx.dp S.rep.sub p1, ry.dp S.rep.sub p2, s1, s2, q _ _ _ _ _ h S (Same.refl _) (.bl _)⟩
theorem opd_inD {x : D} {ys : List D} (hu : X.A.units + 65 < cLine) (hx : fit x = true) (hy : fit (.lst ys) = true) (h : Φ (.bl (ys.any fun z => eqd z x)) M) : OpD X (compareOp .In) x (.lst ys) M Φ := fun B Γ Hn H σ v u Q S rx ry q => by
  obtain ⟨p1, s1⟩ := Bool.and_eq_true_iff.mp hx
  obtain ⟨p2, s2⟩ := Bool.and_eq_true_iff.mp hy
  refine ⟨_, op_inD hu, py x, pyA ys, rx.dp S.rep.sub p1, ry.dp S.rep.sub p2, s1, s2, ?_⟩
  have e : ((pyA ys).any fun z => PyData.eqv z (py x)) = (ys.any fun z => eqd z x) := by
    rw [pyA_map, List.any_map]
    rfl
  rw [e]
  exact q _ _ _ _ _ h S (Same.refl _) (.bl _)
theorem opd_notInD {x : D} {ys : List D} (hu : X.A.units + 65 < cLine) (hx : fit x = true) (hy : fit (.lst ys) = true) (h : Φ (.bl (!ys.any fun z => eqd z x)) M) : OpD X (compareOp .NotIn) x (.lst ys) M Φ := fun B Γ Hn H σ v u Q S rx ry q => by
  obtain ⟨p1, s1⟩ := Bool.and_eq_true_iff.mp hx
  obtain ⟨p2, s2⟩ := Bool.and_eq_true_iff.mp hy
  refine ⟨_, op_notInD hu, py x, pyA ys, rx.dp S.rep.sub p1, ry.dp S.rep.sub p2, s1, s2, ?_⟩
  have e : ((pyA ys).any fun z => PyData.eqv z (py x)) = (ys.any fun z => eqd z x) := by
    rw [pyA_map, List.any_map]
    rfl
  rw [e]
  exact q _ _ _ _ _ h S (Same.refl _) (.bl _)
/-- one sign in a text -/
theorem opd_inS {c : Nat} {z : Str} (h : Φ (.bl (decide (c ∈ z.cps.toList))) M) : OpD X (compareOp .In) (.str ⟨#[c]⟩) (.str z) M Φ := fun B Γ Hn H σ v u Q S rx ry q => by
  cases rx; cases ry
  exact ⟨_, op_in_sign, c, z, rfl, rfl, q _ _ _ _ _ h S (Same.refl _) (.bl _)⟩
theorem opd_notInS {c : Nat} {z : Str} (h : Φ (.bl (!decide (c ∈ z.cps.toList))) M) : OpD X (compareOp .NotIn) (.str ⟨#[c]⟩) (.str z) M Φ := fun B Γ Hn H σ v u Q S rx ry q => by
  cases rx; cases ry
  exact ⟨_, op_notIn_sign, c, z, rfl, rfl, q _ _ _ _ _ h S (Same.refl _) (.bl _)⟩
def isN : D → Bool
  | .non => true
  | _ => false
theorem isN_of {K : PySem.W.Frag} {H : Hp} {v : V} {x : D} (r : Is K H v x) (h : ∀ z, x ≠ .raw z) : decide (v = V.non) = isN x := by
  cases r with
  | non => rfl
  | raw v => exact absurd rfl (h v)
  | _ => rfl
theorem opd_isN {x : D} (hx : ∀ z, x ≠ .raw z) (h : Φ (.bl (isN x)) M) : OpD X (compareOp .Is) x .non M Φ := fun B Γ Hn H σ v u Q S rx ry q => by
  cases ry
  refine ⟨_, op_isN, rfl, ?_⟩
  rw [isN_of rx hx]
  exact q _ _ _ _ _ h S (Same.refl _) (.bl _)
theorem opd_notN {x : D} (hx : ∀ z, x ≠ .raw z) (h : Φ (.bl (!isN x)) M) : OpD X (compareOp .IsNot) x .non M Φ := fun B Γ Hn H σ v u Q S rx ry q => by
  cases ry
  refine ⟨_, op_notN, rfl, ?_⟩
  rw [isN_of rx hx]
  exact q _ _ _ _ _ h S (Same.refl _) (.bl _)
theorem opd_isB {a b : Bool} (h : Φ (.bl (decide (a = b))) M) : OpD X (compareOp .Is) (.bl a) (.bl b) M Φ := fun B Γ Hn H σ v u Q S rx ry q => by
  cases rx; cases ry
  exact ⟨_, op_isBl, a, b, rfl, rfl, q _ _ _ _ _ h S (Same.refl _) (.bl _)⟩
end
end DL
end

section
set_option Elab.async false
set_option linter.all false
set_option maxRecDepth 100000
set_option maxHeartbeats 4000000
/-! Calls of built-ins, subscripts, slices, methods over data. -/
namespace DL
open PySem PySem.Spec PyProof.Rows L2

/-! ### built-in functions and types, called -/
def CallD (X : Cx) (f : Value) (ds : List D) (M : Mem) (Φ : D → Mem → Prop) : Prop :=
  ∀ B Γ Hn H σ vs (Q : VK), SR X.K B M Γ Hn H σ → IsA X.K Hn vs ds → (∀ z d M' Hn' H', Φ d M' → SR X.K B M' Γ Hn' H' σ → Same Hn Hn' → Is X.K Hn' z d → Q z H') → ∃ r : List V → Hp → VK → Prop, CallR X f r ∧ r vs H Q
def cAny (X : Cx) (f : Value) : List V → Hp → VK → Prop := fun vs H Q => ∃ r : List V → Hp → VK → Prop, CallR X f r ∧ r vs H Q
theorem call_any {X : Cx} {f : Value} : CallR X f (cAny X f) := by
  intro pins s σ H xs us Q I r h
  obtain ⟨r', hr, h⟩ := h
  exact hr pins s σ H xs us Q I r h
section
variable {X : Cx} {Γ : Sl} {M : Mem} {Φ : D → Mem → Prop} {Ψ : XP} {a b c e : Expr} {es : List Expr} {pos p pos2 apos cpos : Pos}
theorem je_callB {x : Str} {id : String} (hm : X.mg x = none) (hv : bootBuiltins x = some (.builtin id)) (h : JA X Γ M (e :: es) (fun ds M1 => CallD X (.builtin id) ds M1 Φ) Ψ) (hg : Gl X x := by rfl) (hn : x ≠ "__name__" := by decide) (hdb : (x == ("__debug__" : Str)) = false := by decide)
    (he : starEach (e :: es) X.env = (false, eval e X.env) :: starEach es X.env := by rfl) (hpl : (backTo pos (starEach es X.env)).any (·.1) = false := by rfl) : JE X Γ M (.Call (.Name x p) (e :: es) [] pos) Φ Ψ := fun B Hn H σ S A Q q => by
  refine run_pe (pe_callB call_any hg hm hv pa_run hn hdb he hpl) ?_
  refine h B Hn H σ S A _ fun vs ds M1 Hn1 H1 p1 S1 e1 r1 => ?_
  exact p1 B Γ Hn1 H1 σ vs Q S1 r1 fun z d M' Hn' H' p2 S2 e2 r2 => q z d M' Hn' H' p2 S2 (e1.trans e2) r2
theorem je_callT {x : Str} {T : String} (hm : X.mg x = none) (hv : bootBuiltins x = some (.type T)) (h : JA X Γ M (e :: es) (fun ds M1 => CallD X (.type T) ds M1 Φ) Ψ) (hg : Gl X x := by rfl) (hn : x ≠ "__name__" := by decide) (hdb : (x == ("__debug__" : Str)) = false := by decide)
    (he : starEach (e :: es) X.env = (false, eval e X.env) :: starEach es X.env := by rfl) (hpl : (backTo pos (starEach es X.env)).any (·.1) = false := by rfl) : JE X Γ M (.Call (.Name x p) (e :: es) [] pos) Φ Ψ := fun B Hn H σ S A Q q => by
  refine run_pe (pe_callTy call_any hg hm hv pa_run hn hdb he hpl) ?_
  refine h B Hn H σ S A _ fun vs ds M1 Hn1 H1 p1 S1 e1 r1 => ?_
  exact p1 B Γ Hn1 H1 σ vs Q S1 r1 fun z d M' Hn' H' p2 S2 e2 r2 => q z d M' Hn' H' p2 S2 (e1.trans e2) r2
theorem IsA.one {K : PySem.W.Frag} {H : Hp} {vs : List V} {d : D} (h : IsA K H vs [d]) : ∃ v, vs = [v] ∧ Is K H v d := by
  cases h with
  | cons a b => cases b; exact ⟨_, rfl, a⟩
theorem IsA.two {K : PySem.W.Frag} {H : Hp} {vs : List V} {d d2 : D} (h : IsA K H vs [d, d2]) : ∃ v v2, vs = [v, v2] ∧ Is K H v d ∧ Is K H v2 d2 := by
  cases h with
  | cons a b =>
    obtain ⟨v2, rfl, r⟩ := b.one
    exact ⟨_, _, rfl, a, r⟩
theorem cd_lenL {xs : List D} (h : Φ (.int xs.length) M) : CallD X (.builtin "len") [.lst xs] M Φ := fun B Γ Hn H σ vs Q S rr q => by
  obtain ⟨v, rfl, r⟩ := rr.one
  clear rr
  cases r with
  | @lst a ws _ h1 r1 =>
    refine ⟨_, call_len_seq, a, ws, rfl, .inl (SqL.of (S.rep.sub _ _ h1)), ?_⟩
    rw [r1.length]
    exact q _ _ _ _ _ h S (Same.refl _) (.int _)
theorem cd_lenT {xs : List D} (h : Φ (.int xs.length) M) : CallD X (.builtin "len") [.tup xs] M Φ := fun B Γ Hn H σ vs Q S rr q => by
  obtain ⟨v, rfl, r⟩ := rr.one
  clear rr
  cases r with
  | @tup a ws _ h1 r1 =>
    refine ⟨_, call_len_seq, a, ws, rfl, .inr (same_t S.rep.sub h1), ?_⟩
    rw [r1.length]
    exact q _ _ _ _ _ h S (Same.refl _) (.int _)
theorem cd_lenS {x : Str} (hl : x.length ≤ 1000000) (h : Φ (.int x.length) M) : CallD X (.builtin "len") [.str x] M Φ := fun B Γ Hn H σ vs Q S rr q => by
  obtain ⟨v, rfl, r⟩ := rr.one
  clear rr
  cases r
  exact ⟨_, call_len, _, x.length, rfl, ⟨by rw [sizeLine_eq]; omega, rfl⟩, q _ _ _ _ _ h S (Same.refl _) (.int _)⟩
theorem cd_lenDK {xs : List (D × D)} (h : Φ (.int xs.length) M) : CallD X (.builtin "len") [.dK xs] M Φ := fun B Γ Hn H σ vs Q S rr q => by
  obtain ⟨v, rfl, r⟩ := rr.one
  clear rr
  cases r with
  | @dK a ws _ h1 r1 =>
    refine ⟨_, call_lenD, a, ws, rfl, S.rep.sub _ _ h1, ?_⟩
    rw [r1.length]
    exact q _ _ _ _ _ h S (Same.refl _) (.int _)
theorem cd_lenDT {xs : List (D × D)} (h : Φ (.int xs.length) M) : CallD X (.builtin "len") [.dT xs] M Φ := fun B Γ Hn H σ vs Q S rr q => by
  obtain ⟨v, rfl, r⟩ := rr.one
  clear rr
  cases r with
  | @dT a ws _ h1 r1 =>
    refine ⟨_, call_len_dT, a, ws, rfl, S.rep.sub _ _ h1, ?_⟩
    rw [r1.length]
    exact q _ _ _ _ _ h S (Same.refl _) (.int _)
/-- len of a list that may change -/
theorem cd_lenC (k : Nat) {t : Addr} {xs : List D} (hk : M[k]? = some (t, .lst xs)) (h : Φ (.int xs.length) M) : CallD X (.builtin "len") [.raw (.ref t)] M Φ := fun B Γ Hn H σ vs Q S rr q => by
  obtain ⟨v, rfl, r⟩ := rr.one
  clear rr
  cases r
  obtain ⟨ws, h1, r1⟩ := (S.rep.cell _ (List.mem_of_getElem? hk)).2
  refine ⟨_, call_len_seq, t, ws, rfl, .inl (SqL.of h1), ?_⟩
  rw [r1.length]
  exact q _ _ _ _ _ h S (Same.refl _) (.int _)

/-! ### isinstance of what is no instance -/
def tyN : D → Option String
  | .non => some "NoneType"
  | .bl _ => some "bool"
  | .int _ => some "int"
  | .str _ => some "str"
  | .tup _ => some "tuple"
  | .lst _ => some "list"
  | .dK _ => some "dict"
  | .dT _ => some "dict"
  | .ins _ _ => none
  | .raw _ => none
  | .exc _ _ _ _ => none
theorem tyX_of {K : PySem.W.Frag} {Hn H : Hp} {v : V} {d : D} {n : String} (e : Same Hn H) (r : Is K Hn v d) (h : tyN d = some n) : TyX K H v (.type n) := by
  cases r with
  | non => cases h; exact .base .non
  | bl b => cases h; exact .base (.bl b)
  | int i => cases h; exact .base (.int i)
  | str x => cases h; exact .base (.str x)
  | tup t _ =>
    cases h
    rcases t with t | ⟨_, (t | ⟨o, t⟩) | ⟨o, its, n, t, c, _⟩⟩
    · exact .base (.tup (e _ _ t))
    · exact .base (.tup (e _ _ t))
    · exact .fTuple (e _ _ t)
    · exact .kTuple t c
  | lst t _ => cases h; exact .base (.lst (e _ _ t))
  | dK t _ => cases h; exact .base (.dK (e _ _ t))
  | dT t _ => cases h; exact .base (.dT (e _ _ t))
  | ins _ _ => cases h
  | raw _ => cases h
  | exc _ _ => cases h
theorem cd_isi {d : D} {n m : String} {b : Bool} (hn : tyN d = some n) (hb : kitB n m = some b) (h : Φ (.bl b) M) : CallD X (.builtin "isinstance") [d, .raw (.ty m)] M Φ := fun B Γ Hn H σ vs Q S rr q => by
  obtain ⟨v, v2, rfl, r, r2⟩ := rr.two
  clear rr
  cases r2
  exact ⟨_, call_isi, v, _, _, _, b, rfl, .ty m, tyX_of S.rep.sub r hn, kit_ty hb, q _ _ _ _ _ h S (Same.refl _) (.bl _)⟩
/-- isinstance(x, C), x plain, C a class of the program's own -/
theorem cd_isiC {d : D} {n : String} {C : Addr} {b : Bool} (hn : tyN d = some n) (hb : PySem.W.kitOne X.K (.type n) (.ref C) = some b) (h : Φ (.bl b) M) : CallD X (.builtin "isinstance") [d, .raw (.ref C)] M Φ := fun B Γ Hn H σ vs Q S rr q => by
  obtain ⟨v, v2, rfl, r, r2⟩ := rr.two
  clear rr
  cases r2
  exact ⟨_, call_isi, v, _, _, _, b, rfl, .own C, tyX_of S.rep.sub r hn, hb, q _ _ _ _ _ h S (Same.refl _) (.bl _)⟩
/-- what isinstance asks of an own class -/
structure IsiC (K : PySem.W.Frag) (C : Addr) : Prop where
  cl : Cls K C
  ha : PySem.W.findIn K (.ref C) "__class__" = some (some (.builtin "object.__class__"))
  hn : PySem.W.specialIn K (.builtin "object.__class__") "__get__" = some (some (.builtin "getset_descriptor.__get__"))
  htk : PySem.W.takesIn K (.builtin "object.__class__") = some true
  hm : PySem.W.mroIn K C (.type "object") = some true
theorem cd_isiI {C C' : Addr} {fs : List (Str × D)} {b : Bool} (T : IsiC X.K C) (hb : PySem.W.kitOne X.K (.ref C) (.ref C') = some b) (h : Φ (.bl b) M) : CallD X (.builtin "isinstance") [.ins C fs, .raw (.ref C')] M Φ := fun B Γ Hn H σ vs Q S rr q => by
  obtain ⟨v, v2, rfl, r, r2⟩ := rr.two
  clear rr
  cases r2
  cases r with
  | ins h1 _ => exact ⟨_, call_isi, _, _, _, _, b, rfl, .own C', .base (.ins (S.rep.sub _ _ h1) T.cl T.ha T.hn T.htk T.hm), hb, q _ _ _ _ _ h S (Same.refl _) (.bl _)⟩
theorem cd_isiIT {C : Addr} {fs : List (Str × D)} {m : String} {b : Bool} (T : IsiC X.K C) (hb : PySem.W.kitOne X.K (.ref C) (.type m) = some b) (h : Φ (.bl b) M) : CallD X (.builtin "isinstance") [.ins C fs, .raw (.ty m)] M Φ := fun B Γ Hn H σ vs Q S rr q => by
  obtain ⟨v, v2, rfl, r, r2⟩ := rr.two
  clear rr
  cases r2
  cases r with
  | ins h1 _ => exact ⟨_, call_isi, _, _, _, _, b, rfl, .ty m, .base (.ins (S.rep.sub _ _ h1) T.cl T.ha T.hn T.htk T.hm), hb, q _ _ _ _ _ h S (Same.refl _) (.bl _)⟩
/-- isinstance(x, (T1, T2)), the tuple of built-in classes made just then -/
theorem kitAny_tys {K : PySem.W.Frag} {n : String} : ∀ {ms : List String} {b : Bool}, (ms.foldr (fun m r => (kitB n m).bind fun k => if k then some true else r) (some false)) = some b → PySem.W.kitAny K (.type n) (ms.map Value.type) = some b
  | [], b, h => h
  | m :: ms, b, h => by
    have h' : ((kitB n m).bind fun k => if k = true then some true else ms.foldr (fun m r => (kitB n m).bind fun k => if k then some true else r) (some false)) = some b := h
    cases hk : kitB n m with
    | none => rw [hk] at h'; cases h'
    | some k =>
      rw [hk, Option.bind_some] at h'
      cases k with
      | true =>
        cases h'
        exact kitAny_cons (kit_ty hk) (fun z => nomatch z) fun _ => rfl
      | false => exact kitAny_cons (kit_ty hk) (fun _ => kitAny_tys h') fun z => nomatch z
theorem isA_tys {K : PySem.W.Frag} {H : Hp} : ∀ {ms : List String} {ws : List V}, IsA K H ws (ms.map fun m => .raw (.ty m)) → Paired ClsV ws (ms.map Value.type)
  | [], _, .nil => .nil
  | m :: ms, _, .cons a b => by
    cases a
    exact .cons (.ty m) (isA_tys b)
/-- isinstance(x, (T1, T2)) -/
theorem je_isi2 {x1 x2 : Str} {T1 T2 : String} {p1 p2 pt : Pos} {kt} (hm : X.mg "isinstance" = none) (hm1 : X.mg x1 = none) (hv1 : bootBuiltins x1 = some (.type T1)) (hm2 : X.mg x2 = none) (hv2 : bootBuiltins x2 = some (.type T2))
    (h : JE X Γ M e (fun d M1 => ∃ n b, tyN d = some n ∧ ([T1, T2].foldr (fun m r => (kitB n m).bind fun k => if k then some true else r) (some false)) = some b ∧ Φ (.bl b) M1) Ψ) (hg : Gl X "isinstance" := by rfl) (hg1 : Gl X x1 := by rfl) (hg2 : Gl X x2 := by rfl)
    (hn1 : x1 ≠ "__name__" := by decide) (hdb1 : (x1 == ("__debug__" : Str)) = false := by decide) (hn2 : x2 ≠ "__name__" := by decide) (hdb2 : (x2 == ("__debug__" : Str)) = false := by decide)
    (hs1 : starEach [.Name x1 p1, .Name x2 p2] X.env = (false, eval (.Name x1 p1) X.env) :: starEach [.Name x2 p2] X.env := by rfl) (hs2 : starEach [.Name x2 p2] X.env = (false, eval (.Name x2 p2) X.env) :: starEach [] X.env := by rfl)
    (hs3 : starEach [e, .Tuple [.Name x1 p1, .Name x2 p2] kt pt] X.env = (false, eval e X.env) :: starEach [.Tuple [.Name x1 p1, .Name x2 p2] kt pt] X.env := by rfl)
    (hs4 : starEach [.Tuple [.Name x1 p1, .Name x2 p2] kt pt] X.env = (false, eval (.Tuple [.Name x1 p1, .Name x2 p2] kt pt) X.env) :: starEach [] X.env := by rfl)
    (hpl : (backTo pos (starEach [.Tuple [.Name x1 p1, .Name x2 p2] kt pt] X.env)).any (·.1) = false := by rfl) : JE X Γ M (.Call (.Name "isinstance" p) [e, .Tuple [.Name x1 p1, .Name x2 p2] kt pt] [] pos) Φ Ψ := fun B Hn H σ S A Q q => by
  refine run_pe (pe_callB call_isiT hg hm (by decide +kernel) (pa_cons pe_run (pa_cons (pe_tup (pa_cons (pe_bltn (v := .ty T1) hg1 hm1 hv1 rfl hn1 hdb1) (pa_cons (pe_bltn (v := .ty T2) hg2 hm2 hv2 rfl hn2 hdb2) pa_nil hs2) hs1)) pa_nil hs4) hs3) (by decide) (by decide) hs3 hpl) ?_
  refine h B Hn H σ S A _ fun v d M1 Hn1 H1 p1 S1 e1 r1 => ?_
  obtain ⟨n, b, hn, hb, p1⟩ := p1
  refine ⟨by show 2 ≤ sizeLine; rw [sizeLine_eq]; omega, fun t ht => ?_⟩
  have hh := S1.rep.nn ht
  refine ⟨v, t, [.ty T1, .ty T2], _, [.type T1, .type T2], b, rfl, upd_same, .cons (.ty T1) (.cons (.ty T2) .nil), tyX_of (S1.rep.sub.trans (same_upd ht)) r1 hn, kitAny_tys (ms := [T1, T2]) hb, ?_⟩
  exact q _ _ _ _ _ p1 (S1.alloc ht) (e1.trans (same_upd hh)) (.bl b)

/-! ### all, any, sorted, list, tuple, str, int, min -/
theorem isA_bools {K : PySem.W.Frag} {H : Hp} : ∀ {bs : List Bool} {ws : List V}, IsA K H ws (bs.map D.bl) → ws = bs.map V.bl
  | [], _, .nil => rfl
  | b :: bs, _, .cons a r => by
    cases a
    rw [List.map_cons, isA_bools r]
theorem cd_all {bs : List Bool} (hc : X.calm = true) (h : Φ (.bl (bs.all id)) M) : CallD X (.builtin "all") [.lst (bs.map D.bl)] M Φ := fun B Γ Hn H σ vs Q S rr q => by
  obtain ⟨v, rfl, r⟩ := rr.one
  clear rr
  cases r with
  | @lst a ws _ h1 r1 =>
    have e := isA_bools r1
    subst e
    exact ⟨_, cr_all hc, a, bs, rfl, SqL.of (S.rep.sub _ _ h1), q _ _ _ _ _ h S (Same.refl _) (.bl _)⟩
theorem cd_any {bs : List Bool} (hc : X.calm = true) (h : Φ (.bl (bs.any id)) M) : CallD X (.builtin "any") [.lst (bs.map D.bl)] M Φ := fun B Γ Hn H σ vs Q S rr q => by
  obtain ⟨v, rfl, r⟩ := rr.one
  clear rr
  cases r with
  | @lst a ws _ h1 r1 =>
    have e := isA_bools r1
    subst e
    exact ⟨_, cr_any hc, a, bs, rfl, SqL.of (S.rep.sub _ _ h1), q _ _ _ _ _ h S (Same.refl _) (.bl _)⟩
theorem cd_list {xs : List D} (h : Φ (.lst xs) M) : CallD X (.type "list") [.lst xs] M Φ := fun B Γ Hn H σ vs Q S rr q => by
  obtain ⟨v, rfl, r⟩ := rr.one
  clear rr
  cases r with
  | @lst a ws _ h1 r1 =>
    refine ⟨_, call_list_of, a, ws, rfl, .inl (SqL.of (S.rep.sub _ _ h1)), fun t ht => ?_⟩
    have hn := S.rep.nn ht
    exact q _ _ _ _ _ h (S.alloc ht) (same_upd hn) (.lst upd_same (r1.mono (same_upd hn)))
theorem cd_listT {xs : List D} (h : Φ (.lst xs) M) : CallD X (.type "list") [.tup xs] M Φ := fun B Γ Hn H σ vs Q S rr q => by
  obtain ⟨v, rfl, r⟩ := rr.one
  clear rr
  cases r with
  | @tup a ws _ h1 r1 =>
    refine ⟨_, call_list_of, a, ws, rfl, .inr (same_t S.rep.sub h1), fun t ht => ?_⟩
    have hn := S.rep.nn ht
    exact q _ _ _ _ _ h (S.alloc ht) (same_upd hn) (.lst upd_same (r1.mono (same_upd hn)))
/-- list(xs) as a list that may change -/
theorem cd_listC {xs : List D} (h : ∀ t, Φ (.raw (.ref t)) (M ++ [(t, .lst xs)])) : CallD X (.type "list") [.lst xs] M Φ := fun B Γ Hn H σ vs Q S rr q => by
  obtain ⟨v, rfl, r⟩ := rr.one
  clear rr
  cases r with
  | @lst a ws _ h1 r1 =>
    exact ⟨_, call_list_of, a, ws, rfl, .inl (SqL.of (S.rep.sub _ _ h1)), fun t ht => q _ _ _ _ _ (h t) (S.cell ht ⟨ws, upd_same, r1⟩) (Same.refl _) (.raw _)⟩
theorem cd_listTC {xs : List D} (h : ∀ t, Φ (.raw (.ref t)) (M ++ [(t, .lst xs)])) : CallD X (.type "list") [.tup xs] M Φ := fun B Γ Hn H σ vs Q S rr q => by
  obtain ⟨v, rfl, r⟩ := rr.one
  clear rr
  cases r with
  | @tup a ws _ h1 r1 =>
    exact ⟨_, call_list_of, a, ws, rfl, .inr (same_t S.rep.sub h1), fun t ht => q _ _ _ _ _ (h t) (S.cell ht ⟨ws, upd_same, r1⟩) (Same.refl _) (.raw _)⟩
theorem cd_tuple {xs : List D} (h : Φ (.tup xs) M) : CallD X (.type "tuple") [.lst xs] M Φ := fun B Γ Hn H σ vs Q S rr q => by
  obtain ⟨v, rfl, r⟩ := rr.one
  clear rr
  cases r with
  | @lst a ws _ h1 r1 =>
    refine ⟨_, call_tuple_of, a, ws, rfl, .inl ⟨SqL.of (S.rep.sub _ _ h1), fun t ht => ?_⟩⟩
    have hn := S.rep.nn ht
    exact q _ _ _ _ _ h (S.alloc ht) (same_upd hn) (.tup (.inl upd_same) (r1.mono (same_upd hn)))
theorem cd_tupleT {xs : List D} (h : Φ (.tup xs) M) : CallD X (.type "tuple") [.tup xs] M Φ := fun B Γ Hn H σ vs Q S rr q => by
  obtain ⟨v, rfl, r⟩ := rr.one
  clear rr
  cases r with
  | @tup a ws _ h1 r1 => exact ⟨_, call_tuple_of, a, ws, rfl, .inr ⟨same_t S.rep.sub h1, q _ _ _ _ _ h S (Same.refl _) (.tup h1 r1)⟩⟩
/-- tuple of a list that may change -/
theorem cd_tupleC (k : Nat) {t : Addr} {xs : List D} (hk : M[k]? = some (t, .lst xs)) (h : Φ (.tup xs) M) : CallD X (.type "tuple") [.raw (.ref t)] M Φ := fun B Γ Hn H σ vs Q S rr q => by
  obtain ⟨v, rfl, r⟩ := rr.one
  clear rr
  cases r
  obtain ⟨ws, h1, r1⟩ := (S.rep.cell _ (List.mem_of_getElem? hk)).2
  refine ⟨_, call_tuple_of, t, ws, rfl, .inl ⟨SqL.of h1, fun t ht => ?_⟩⟩
  have hn := S.rep.nn ht
  exact q _ _ _ _ _ h (S.alloc ht) (same_upd hn) (.tup (.inl upd_same) (r1.mono (same_upd hn)))
theorem cd_strI {i : Int} (hb : i.natAbs.log2 < 1920) (h : Φ (.str (toString i)) M) : CallD X (.type "str") [.int i] M Φ := fun B Γ Hn H σ vs Q S rr q => by
  obtain ⟨v, rfl, r⟩ := rr.one
  clear rr
  cases r
  exact ⟨_, call_str_int, i, rfl, hb, q _ _ _ _ _ h S (Same.refl _) (.str _)⟩
theorem cd_intI {i : Int} (h : Φ (.int i) M) : CallD X (.type "int") [.int i] M Φ := fun B Γ Hn H σ vs Q S rr q => by
  obtain ⟨v, rfl, r⟩ := rr.one
  clear rr
  cases r
  exact ⟨_, call_int1, .inl ⟨i, rfl, q _ _ _ _ _ h S (Same.refl _) (.int _)⟩⟩
theorem cd_min2 {i j : Int} (hc : X.calm = true) (h : Φ (.int (if j < i then j else i)) M) : CallD X (.builtin "min") [.int i, .int j] M Φ := fun B Γ Hn H σ vs Q S rr q => by
  obtain ⟨v, v2, rfl, r, r2⟩ := rr.two
  clear rr
  cases r; cases r2
  exact ⟨_, call_min2 hc, i, j, rfl, q _ _ _ _ _ h S (Same.refl _) (.int _)⟩
/-- the keys of a dict whose keys are tuples -/
theorem isKeys_tup {K : PySem.W.Frag} {H : Hp} : ∀ {ks : List (List Key × V)} {ds : List (D × D)} {bs : List Addr}, IsT K H ks ds → IsKeys H ks bs → IsA K H (bs.map V.ref) (ds.map (·.1))
  | _, _, _, .nil, .nil => .nil
  | _, _, _, .cons (k := k) a r, .cons e t => by
    refine .cons (.tup (.inl e) ?_) (isKeys_tup r t)
    have ki : ∀ l : List Key, IsA K H (l.map kV) (l.map keyD) := by
      intro l
      induction l with
      | nil => exact .nil
      | cons x l ih =>
        refine .cons ?_ ih
        cases x with
        | inl i => exact .int i
        | inr x => exact .str x
    exact ki k
/-- x < y, of plain data -/
def leD (x y : D) : Bool := PySem.W.dataLe false py x y
def sortD (xs : List D) : List D := xs.mergeSort leD
theorem cr_sortedD (hu : X.A.units + 64 < cLine) : CallR X (.builtin "sorted") (fun vs H Q => ∃ (a : Addr) (bs : List (V × D)), vs = [.ref a] ∧ SqL X.K H a (bs.map (·.1)) ∧ (∀ b ∈ bs, Dp X.K H b.1 (py b.2)) ∧
    PySem.W.AllAlike (bs.map fun b => py b.2) ∧ PySem.W.Sortable (bs.map fun b => py b.2) ∧ (∀ b ∈ bs, (py b.2).depth ≤ 32) ∧ ∀ p, H p = none → Q (.ref p) (upd H p (.lst ((bs.mergeSort (PySem.W.dataLe false fun b => py b.2)).map (·.1))))) := by
  intro pins s σ H vs us Q I r h
  obtain ⟨a, bs, rfl, hs, hd, hal, hk, hz, q⟩ := h
  obtain ⟨its, rv, hl, hlen⟩ := I.list hs
  rw [Vals.ref1 r]
  have each : ∀ (bs : List (V × D)) (its : List Value), Vals (bs.map (·.1)) its → (∀ b ∈ bs, Dp X.K H b.1 (py b.2)) → PySem.W.EachIs (fun (u : Value) (b : V × D) => RelV b.1 u) its bs ∧ PySem.W.EachIs (fun (u : Value) (b : V × D) => ∃ as, Reads s.heap u (py b.2) as) its bs := by
    intro bs
    induction bs with
    | nil =>
      intro its r _
      cases r
      exact ⟨.nil, .nil⟩
    | cons b bs ih =>
      intro its r hd
      cases r with
      | cons r1 r2 =>
        obtain ⟨e1, e2⟩ := ih _ r2 fun b hb => hd b (List.mem_cons_of_mem _ hb)
        exact ⟨.cons r1 e1, .cons (Dp.reads I _ _ _ (hd b List.mem_cons_self) r1) e2⟩
  obtain ⟨e1, e2⟩ := each bs its rv hd
  refine PySem.W.sorted_data hl.isList e1 e2 hal hk (by rw [List.length_map] at hlen; exact hlen) (fun b hb => by have := hz b hb; omega) fun out ho eo => ?_
  obtain ⟨ep, he'⟩ := PyProof.Rows.sortedAll_at s.heap its out.toArray
  have vo : ∀ (l : List (V × D)) (o : List Value), PySem.W.EachIs (fun (u : Value) (b : V × D) => RelV b.1 u) o l → Vals (l.map (·.1)) o := by
    intro l
    induction l with
    | nil =>
      intro o e
      cases e
      exact .nil
    | cons b l ih =>
      intro o e
      cases e with
      | cons a r => exact .cons a (ih _ r)
  have hz2 : ((bs.mergeSort (PySem.W.dataLe false fun b => py b.2)).map (·.1)).length ≤ sizeLine := by
    rw [List.length_map, List.length_mergeSort]
    rw [List.length_map] at hlen
    exact hlen
  exact ⟨.ref _, upd H (s.heap.objs.size + 1) (.lst ((bs.mergeSort (PySem.W.dataLe false fun b => py b.2)).map (·.1))), I.laid (t' := s.toks) (fun _ _ => PyProof.Rows.sortedAll_old) (Nat.le_succ _) ⟨hz2, out, ep, vo _ _ eo, he'⟩, rfl, q _ (I.hok.fresh (Nat.le_succ _))⟩
theorem isA_zip {K : PySem.W.Frag} {H : Hp} : ∀ {ws : List V} {ds : List D}, IsA K H ws ds → (ws.zip ds).map (·.1) = ws ∧ (ws.zip ds).map (·.2) = ds ∧ ∀ b ∈ ws.zip ds, Is K H b.1 b.2
  | _, _, .nil => ⟨rfl, rfl, fun b hb => by simp at hb⟩
  | _, _, .cons a r => by
    obtain ⟨h1, h2, h3⟩ := isA_zip r
    refine ⟨by rw [List.zip_cons_cons, List.map_cons, h1], by rw [List.zip_cons_cons, List.map_cons, h2], fun b hb => ?_⟩
    rw [List.zip_cons_cons] at hb
    rcases List.mem_cons.mp hb with e | hb
    · rw [e]; exact a
    · exact h3 b hb
theorem zip_isA {K : PySem.W.Frag} {H : Hp} : ∀ {l : List (V × D)}, (∀ b ∈ l, Is K H b.1 b.2) → IsA K H (l.map (·.1)) (l.map (·.2))
  | [], _ => .nil
  | b :: l, h => .cons (h b List.mem_cons_self) (zip_isA fun b hb => h b (List.mem_cons_of_mem _ hb))
theorem cd_sorted {xs : List D} (hu : X.A.units + 64 < cLine) (hp : xs.all plain = true) (hal : PySem.W.AllAlike (xs.map py)) (hk : PySem.W.Sortable (xs.map py)) (hz : ∀ x ∈ xs, (py x).depth ≤ 32) (h : Φ (.lst (sortD xs)) M) : CallD X (.builtin "sorted") [.lst xs] M Φ := fun B Γ Hn H σ vs Q S rr q => by
  obtain ⟨v, rfl, r⟩ := rr.one
  clear rr
  cases r with
  | @lst a ws _ h1 r1 =>
    obtain ⟨z1, z2, z3⟩ := isA_zip r1
    have em : (ws.zip xs).map (fun b => py b.2) = xs.map py := by
      rw [show (ws.zip xs).map (fun b => py b.2) = ((ws.zip xs).map (·.2)).map py from by rw [List.map_map]; rfl, z2]
    have mem : ∀ b ∈ ws.zip xs, b.2 ∈ xs := fun b hb => by rw [← z2]; exact List.mem_map_of_mem hb
    refine ⟨_, cr_sortedD hu, a, ws.zip xs, rfl, by rw [z1]; exact SqL.of (S.rep.sub _ _ h1), fun b hb => (z3 b hb).dp S.rep.sub (List.all_eq_true.mp hp _ (mem b hb)), by rw [em]; exact hal, by rw [em]; exact hk, fun b hb => hz _ (mem b hb), fun t ht => ?_⟩
    have hn := S.rep.nn ht
    have e2 : ((ws.zip xs).mergeSort (PySem.W.dataLe false fun b => py b.2)).map (·.2) = sortD xs := by
      unfold sortD
      exact (List.map_mergeSort (r := PySem.W.dataLe false fun b : V × D => py b.2) (s := leD) (f := fun b : V × D => b.2) (fun a _ b _ => rfl)).trans (by rw [z2])
    have rr := zip_isA (K := X.K) (H := upd Hn t (.lst (((ws.zip xs).mergeSort (PySem.W.dataLe false fun b => py b.2)).map (·.1)))) (l := (ws.zip xs).mergeSort (PySem.W.dataLe false fun b => py b.2)) fun b hb => (z3 b (List.mem_mergeSort.mp hb)).mono (same_upd hn)
    rw [e2] at rr
    exact q _ _ _ _ _ h (S.alloc ht) (same_upd hn) (.lst upd_same rr)

/-! ### subscripts, slices -/
theorem je_ixL (h : JE X Γ M a (fun x M1 => JE X Γ M1 b (fun y M2 => ∃ xs i d, x = .lst xs ∧ y = .int i ∧ atI xs i = some d ∧ Φ d M2) Ψ) Ψ) (hs : PlainIx b := by exact fun _ _ => rfl) : JE X Γ M (.Subscript a b pos) Φ Ψ := fun B Hn H σ S A Q q => by
  refine run_pe (pe_ix ix_list pe_run pe_run hs) ?_
  refine h B Hn H σ S A _ fun v d M1 Hn1 H1 p S1 e1 r1 => ?_
  refine p B Hn1 H1 σ S1 (A.mono e1) _ fun u d2 M2 Hn2 H2 p2 S2 e2 r2 => ?_
  obtain ⟨xs, i, z, rfl, rfl, hz, p2⟩ := p2
  cases r2
  have r1 := r1.mono e2
  cases r1 with
  | @lst t ws _ h1 r1 =>
    have : ∃ v, atI ws i = some v ∧ Is X.K Hn2 v z := by
      unfold atI at hz ⊢
      rw [r1.length]
      cases hx : ixN xs.length i with
      | none => rw [hx] at hz; cases hz
      | some j =>
        rw [hx] at hz
        exact r1.get hz
    obtain ⟨v, hv, rv⟩ := this
    exact ⟨t, ws, i, v, rfl, rfl, SqL.of (S2.rep.sub _ _ h1), hv, q _ _ _ _ _ p2 S2 (e1.trans e2) rv⟩
theorem je_ixT (h : JE X Γ M a (fun x M1 => JE X Γ M1 b (fun y M2 => ∃ xs i d, x = .tup xs ∧ y = .int i ∧ atI xs i = some d ∧ Φ d M2) Ψ) Ψ) (hs : PlainIx b := by exact fun _ _ => rfl) : JE X Γ M (.Subscript a b pos) Φ Ψ := fun B Hn H σ S A Q q => by
  refine run_pe (pe_ix ix_tup pe_run pe_run hs) ?_
  refine h B Hn H σ S A _ fun v d M1 Hn1 H1 p S1 e1 r1 => ?_
  refine p B Hn1 H1 σ S1 (A.mono e1) _ fun u d2 M2 Hn2 H2 p2 S2 e2 r2 => ?_
  obtain ⟨xs, i, z, rfl, rfl, hz, p2⟩ := p2
  cases r2
  have r1 := r1.mono e2
  cases r1 with
  | @tup t ws _ h1 r1 =>
    have : ∃ v, atI ws i = some v ∧ Is X.K Hn2 v z := by
      unfold atI at hz ⊢
      rw [r1.length]
      cases hx : ixN xs.length i with
      | none => rw [hx] at hz; cases hz
      | some j =>
        rw [hx] at hz
        exact r1.get hz
    obtain ⟨v, hv, rv⟩ := this
    exact ⟨t, ws, i, v, rfl, rfl, same_t S2.rep.sub h1, hv, q _ _ _ _ _ p2 S2 (e1.trans e2) rv⟩
theorem je_ixS (h : JE X Γ M a (fun x M1 => JE X Γ M1 b (fun y M2 => ∃ z i c, x = .str z ∧ y = .int i ∧ z.length ≤ 1000000 ∧ atI z.cps.toList i = some c ∧ Φ (.str ⟨#[c]⟩) M2) Ψ) Ψ) (hs : PlainIx b := by exact fun _ _ => rfl) : JE X Γ M (.Subscript a b pos) Φ Ψ := fun B Hn H σ S A Q q => by
  refine run_pe (pe_ix ix_str pe_run pe_run hs) ?_
  refine h B Hn H σ S A _ fun v d M1 Hn1 H1 p S1 e1 r1 => ?_
  refine p B Hn1 H1 σ S1 (A.mono e1) _ fun u d2 M2 Hn2 H2 p2 S2 e2 r2 => ?_
  obtain ⟨z, i, c, rfl, rfl, hl, hz, p2⟩ := p2
  cases r2
  cases r1
  exact ⟨z, i, c, rfl, rfl, by rw [sizeLine_eq]; omega, hz, q _ _ _ _ _ p2 S2 (e1.trans e2) (.str _)⟩
end
end DL
end

section
set_option Elab.async false
set_option linter.all false
set_option maxRecDepth 100000
set_option maxHeartbeats 4000000
/-! Slices, dicts, methods, fields, defs that are called, iteration, comprehensions. -/
namespace DL
open PySem PySem.Spec PyProof.Rows L2

section
variable {X : Cx} {Γ : Sl} {M : Mem} {Φ : D → Mem → Prop} {Ψ : XP} {a b c e o : Expr} {es : List Expr} {pos p pos2 apos cpos : Pos}
/-! ### slices -/
def RunO (X : Cx) (e : Option Expr) (σ : L2.St) (H : Hp) (Q : Option Int → Hp → Prop) : Prop := ∀ pins s, Inv X pins σ H s → wpAny (model X.prog X.w) X.A (evalPart e X.env) (fun u s' => ∃ o H', Inv X pins σ H' s' ∧ IsPart u o ∧ Q o H') X.xe s
theorem po_run {X : Cx} {e : Option Expr} : PO X e (RunO X e) := ⟨fun pins s σ H Q I h => h pins s I⟩
def JO (X : Cx) (Γ : Sl) (M : Mem) (e : Option Expr) (Φ : Option Int → Mem → Prop) (Ψ : XP) : Prop :=
  ∀ B Hn H σ, SR X.K B M Γ Hn H σ → Air X B Γ Hn σ Ψ → ∀ Q : Option Int → Hp → Prop, (∀ o M' Hn' H', Φ o M' → SR X.K B M' Γ Hn' H' σ → Same Hn Hn' → Q o H') → RunO X e σ H Q
theorem jo_none {Φ : Option Int → Mem → Prop} (h : Φ none M) : JO X Γ M none Φ Ψ := fun B Hn H σ S A Q q pins s I => po_none.run pins s σ H Q I (q _ _ _ _ h S (Same.refl _))
theorem jo_some {Φ : Option Int → Mem → Prop} (h : JE X Γ M e (fun d M1 => ∃ i, d = .int i ∧ Φ (some i) M1) Ψ) : JO X Γ M (some e) Φ Ψ := fun B Hn H σ S A Q q pins s I => (po_some pe_run).run pins s σ H Q I (by
  refine h B Hn H σ S A _ fun v d M1 Hn1 H1 p S1 e1 r1 => ?_
  obtain ⟨i, rfl, p⟩ := p
  cases r1
  exact ⟨i, rfl, q _ _ _ _ p S1 e1⟩)
def cutD {α : Type} (xs : List α) (lo hi : Option Int) : List α := (xs.drop (HT.sIx xs.length 0 lo)).take (HT.sIx xs.length xs.length hi - HT.sIx xs.length 0 lo)
theorem cutD_V (xs : List V) (lo hi : Option Int) : cutV xs lo hi = cutD xs lo hi := rfl
theorem IsA.cut {K : PySem.W.Frag} {H : Hp} {vs : List V} {ds : List D} (h : IsA K H vs ds) (lo hi : Option Int) : IsA K H (cutV vs lo hi) (cutD ds lo hi) := by
  unfold cutV cutD
  rw [h.length]
  exact (h.drop _).take _
theorem cutD_whole {α : Type} {xs : List α} {lo hi : Option Int} (h : HT.sIx xs.length 0 lo = 0 ∧ HT.sIx xs.length xs.length hi = xs.length) : cutD xs lo hi = xs := by
  unfold cutD
  rw [h.1, h.2]
  simp
/-- what a slice of data is -/
def slD (x : D) (lo hi : Option Int) : Option D := match x with
  | .lst xs => some (.lst (cutD xs lo hi))
  | .tup xs => some (.tup (cutD xs lo hi))
  | .str z => some (.str (cutS z lo hi))
  | _ => none
def rSlAny (X : Cx) : V → Option Int → Option Int → Hp → VK → Prop := fun x lo hi H Q => ∃ r, SlR X r ∧ r x lo hi H Q
theorem sl_any : SlR X (rSlAny X) := by
  intro pins s σ H x v vl vu lo hi sl Q I rx hs pl pu h
  obtain ⟨r, hr, h⟩ := h
  exact hr pins s σ H x v vl vu lo hi sl Q I rx hs pl pu h
theorem je_slice {lo hi : Option Expr} (h : JE X Γ M e (fun x M1 => JO X Γ M1 lo (fun l M2 => JO X Γ M2 hi (fun u M3 => small x ∧ ∃ d, slD x l u = some d ∧ Φ d M3) Ψ) Ψ) Ψ) : JE X Γ M (.Subscript e (.Slice lo hi none pos2) pos) Φ Ψ := fun B Hn H σ S A Q q => by
  refine run_pe (pe_slice sl_any pe_run po_run po_run) ?_
  refine h B Hn H σ S A _ fun v d M1 Hn1 H1 p1 S1 e1 r1 => ?_
  refine p1 B Hn1 H1 σ S1 (A.mono e1) _ fun l M2 Hn2 H2 p2 S2 e2 => ?_
  refine p2 B Hn2 H2 σ S2 (A.mono (e1.trans e2)) _ fun u M3 Hn3 H3 p3 S3 e3 => ?_
  obtain ⟨hsm, z, hz, p3⟩ := p3
  have r4 := (r1.mono e2).mono e3
  have e13 := (e1.trans e2).trans e3
  clear r1
  cases r4 with
  | @lst t ws xs h1 r1 =>
    cases hz
    refine ⟨_, sl_list, t, ws, rfl, SqL.of (S3.rep.sub _ _ h1), fun p hp => ?_⟩
    have hn := S3.rep.nn hp
    exact q _ _ _ _ _ p3 (S3.alloc hp) (e13.trans (same_upd hn)) (.lst upd_same ((r1.cut l u).mono (same_upd hn)))
  | @tup t ws xs h1 r1 =>
    cases hz
    refine ⟨_, sl_tupA, t, ws, rfl, same_t S3.rep.sub h1, fun w => ?_, fun _ p hp => ?_⟩
    · rw [r1.length] at w
      rw [cutD_whole w] at p3
      exact q _ _ _ _ _ p3 S3 e13 (.tup h1 r1)
    · have hn := S3.rep.nn hp
      exact q _ _ _ _ _ p3 (S3.alloc hp) (e13.trans (same_upd hn)) (.tup (.inl upd_same) ((r1.cut l u).mono (same_upd hn)))
  | str x =>
    cases hz
    have hsm : x.length ≤ 1000000 := hsm
    exact ⟨_, sl_str, x, rfl, by rw [sizeLine_eq]; omega, q _ _ _ _ _ p3 S3 e13 (.str _)⟩
  | non => cases hz
  | bl _ => cases hz
  | int _ => cases hz
  | dK _ _ => cases hz
  | dT _ _ => cases hz
  | ins _ _ => cases hz
  | raw _ => cases hz
  | exc _ _ => cases hz

/-! ### dicts -/
theorem kV_of {K : PySem.W.Frag} {H : Hp} {v : V} {j : Key} (h : Is K H v (keyD j)) : v = kV j := by
  cases j <;> cases h <;> rfl
theorem isA_keys {K : PySem.W.Frag} {H : Hp} : ∀ {j : List Key} {ws : List V}, IsA K H ws (j.map keyD) → ws = j.map kV
  | [], _, .nil => rfl
  | x :: j, _, .cons a b => by rw [List.map_cons, kV_of a, isA_keys b]
theorem tk_of {K : PySem.W.Frag} {Hn H : Hp} {v : V} {j : List Key} (e : Same Hn H) (hj : j ≠ []) (h : Is K Hn v (tkD j)) : ∃ t, v = .ref t ∧ H t = some (.tup (j.map kV)) := by
  unfold tkD at h
  cases h with
  | @tup t ws _ ht ra =>
    have ew := isA_keys ra
    rcases ht with ht | ⟨e0, _⟩
    · exact ⟨t, rfl, by rw [← ew]; exact e _ _ ht⟩
    · rw [e0] at ew
      cases j with
      | nil => exact absurd rfl hj
      | cons x j => cases ew
/-- the dict that d stands for: data, or the cell at place k -/
def DicK (M : Mem) (x : D) (kvs : List (D × D)) : Prop := x = .dK kvs ∨ ∃ (k : Nat) (t : Addr), x = .raw (.ref t) ∧ M[k]? = some (t, .dK kvs)
def DicT (M : Mem) (x : D) (kvs : List (D × D)) : Prop := x = .dT kvs ∨ ∃ (k : Nat) (t : Addr), x = .raw (.ref t) ∧ M[k]? = some (t, .dT kvs)
theorem DicK.at {K : PySem.W.Frag} {M : Mem} {Hn H : Hp} {x : D} {v : V} {kvs : List (D × D)} (R : Rep K M Hn H) (r : Is K Hn v x) (h : DicK M x kvs) : ∃ a ks, v = .ref a ∧ H a = some (.dK ks) ∧ IsK K Hn ks kvs := by
  rcases h with rfl | ⟨k, t, rfl, hk⟩
  · cases r with
    | @dK a ks _ h1 r1 => exact ⟨a, ks, rfl, R.sub _ _ h1, r1⟩
  · cases r
    obtain ⟨ks, h1, r⟩ := (R.cell _ (List.mem_of_getElem? hk)).2
    exact ⟨t, ks, rfl, h1, r⟩
theorem DicT.at {K : PySem.W.Frag} {M : Mem} {Hn H : Hp} {x : D} {v : V} {kvs : List (D × D)} (R : Rep K M Hn H) (r : Is K Hn v x) (h : DicT M x kvs) : ∃ a ks, v = .ref a ∧ H a = some (.dT ks) ∧ IsT K Hn ks kvs := by
  rcases h with rfl | ⟨k, t, rfl, hk⟩
  · cases r with
    | @dT a ks _ h1 r1 => exact ⟨a, ks, rfl, R.sub _ _ h1, r1⟩
  · cases r
    obtain ⟨ks, h1, r⟩ := (R.cell _ (List.mem_of_getElem? hk)).2
    exact ⟨t, ks, rfl, h1, r⟩
/-- what x holds at the key y: z -/
def DicHas (M : Mem) (x y : D) (z : Option D) : Prop := (∃ kvs j, DicK M x kvs ∧ y = keyD j ∧ lkD kvs y = z) ∨ ∃ kvs j, DicT M x kvs ∧ j ≠ [] ∧ y = tkD j ∧ lkD kvs y = z
theorem DicHas.get {K : PySem.W.Frag} {M : Mem} {Hn H : Hp} {x y : D} {v u : V} {z : Option D} (R : Rep K M Hn H) (r : Is K Hn v x) (r2 : Is K Hn u y) (h : DicHas M x y z) :
    ∃ a w, v = .ref a ∧ DGet H a u w ∧ IsD H a ∧ ((∃ d e, z = some d ∧ w = some e ∧ Is K Hn e d) ∨ (z = none ∧ w = none)) := by
  rcases h with ⟨kvs, j, hd, rfl, rfl⟩ | ⟨kvs, j, hd, hj, rfl, rfl⟩
  · obtain ⟨a, ks, rfl, ha, rk⟩ := hd.at R r
    have e := kV_of r2
    subst e
    refine ⟨a, valV ks j, rfl, DGet.k ha, .inl ⟨ks, .inl ha⟩, ?_⟩
    rcases rk.get j with ⟨w, d, g1, g2, g3⟩ | ⟨g1, g2⟩
    · exact .inl ⟨d, w, g2, g1, g3⟩
    · exact .inr ⟨g2, g1⟩
  · obtain ⟨a, ks, rfl, ha, rk⟩ := hd.at R r
    obtain ⟨t, rfl, ht⟩ := tk_of R.sub hj r2
    refine ⟨a, valV ks j, rfl, DGet.t ha ht, .inr ⟨ks, .inl ha⟩, ?_⟩
    rcases rk.get j with ⟨w, d, g1, g2, g3⟩ | ⟨g1, g2⟩
    · exact .inl ⟨d, w, g2, g1, g3⟩
    · exact .inr ⟨g2, g1⟩
theorem je_dget (hu : X.A.units + 1 < cLine) (h : JE X Γ M o (fun x M1 => JE X Γ M1 b (fun y M2 => ∃ z, DicHas M2 x y (some z) ∧ Φ z M2) Ψ) Ψ) (hs : NoSl b := by exact fun _ _ => rfl) : JE X Γ M (.Subscript o b pos) Φ Ψ := fun B Hn H σ S A Q q => by
  refine run_pe (pe_dget hu pe_run pe_run hs) ?_
  refine h B Hn H σ S A _ fun v d M1 Hn1 H1 p1 S1 e1 r1 => ?_
  refine p1 B Hn1 H1 σ S1 (A.mono e1) _ fun u d2 M2 Hn2 H2 p2 S2 e2 r2 => ?_
  obtain ⟨z, hz, p2⟩ := p2
  obtain ⟨a, w, rfl, g, _, ⟨d, e, ed, rfl, re⟩ | ⟨e, _⟩⟩ := hz.get S2.rep (r1.mono e2) r2
  · cases ed
    exact ⟨a, e, rfl, g, q _ _ _ _ _ p2 S2 (e1.trans e2) re⟩
  · cases e
theorem je_in_dic {i : Expr} (hu : X.A.units + 1 < cLine) (h : JE X Γ M i (fun y M1 => JE X Γ M1 o (fun x M2 => ∃ z, DicHas M2 x y z ∧ Φ (.bl z.isSome) M2) Ψ) Ψ) (hm : behindInMarks .In o = false := by rfl) : JE X Γ M (.Compare i [.In] [o] pos) Φ Ψ := fun B Hn H σ S A Q q => by
  refine run_pe (pe_cmp (pc_din hu pe_run pe_run) hm) ?_
  refine h B Hn H σ S A _ fun u d M1 Hn1 H1 p1 S1 e1 r1 => ?_
  refine p1 B Hn1 H1 σ S1 (A.mono e1) _ fun v d2 M2 Hn2 H2 p2 S2 e2 r2 => ?_
  obtain ⟨z, hz, p2⟩ := p2
  obtain ⟨a, w, rfl, g, _, hw⟩ := hz.get S2.rep r2 (r1.mono e2)
  refine ⟨a, w, rfl, g, ?_⟩
  have ew : w.isSome = z.isSome := by
    rcases hw with ⟨d, e, rfl, rfl, _⟩ | ⟨rfl, rfl⟩ <;> rfl
  rw [ew]
  exact q _ _ _ _ _ p2 S2 (e1.trans e2) (.bl _)
theorem je_notin_dic {i : Expr} (hu : X.A.units + 1 < cLine) (h : JE X Γ M i (fun y M1 => JE X Γ M1 o (fun x M2 => ∃ z, DicHas M2 x y z ∧ Φ (.bl (!z.isSome)) M2) Ψ) Ψ) (hm : behindInMarks .NotIn o = false := by rfl) : JE X Γ M (.Compare i [.NotIn] [o] pos) Φ Ψ := fun B Hn H σ S A Q q => by
  refine run_pe (pe_cmp (pc_dnotin hu pe_run pe_run) hm) ?_
  refine h B Hn H σ S A _ fun u d M1 Hn1 H1 p1 S1 e1 r1 => ?_
  refine p1 B Hn1 H1 σ S1 (A.mono e1) _ fun v d2 M2 Hn2 H2 p2 S2 e2 r2 => ?_
  obtain ⟨z, hz, p2⟩ := p2
  obtain ⟨a, w, rfl, g, _, hw⟩ := hz.get S2.rep r2 (r1.mono e2)
  refine ⟨a, w, rfl, g, ?_⟩
  have ew : w.isSome = z.isSome := by
    rcases hw with ⟨d, e, rfl, rfl, _⟩ | ⟨rfl, rfl⟩ <;> rfl
  rw [ew]
  exact q _ _ _ _ _ p2 S2 (e1.trans e2) (.bl _)
/-- d.get(k), d.get(k, x) -/
theorem DicK.isD {K : PySem.W.Frag} {M : Mem} {Hn H : Hp} {x : D} {v : V} (R : Rep K M Hn H) (r : Is K Hn v x) (h : ∃ kvs, DicK M x kvs ∨ DicT M x kvs) : ∃ a, v = .ref a ∧ IsD H a := by
  obtain ⟨kvs, h | h⟩ := h
  · obtain ⟨a, ks, rfl, ha, _⟩ := h.at R r
    exact ⟨a, rfl, .inl ⟨ks, .inl ha⟩⟩
  · obtain ⟨a, ks, rfl, ha, _⟩ := h.at R r
    exact ⟨a, rfl, .inr ⟨ks, .inl ha⟩⟩
theorem je_get1 (hu : X.A.units + 1 < cLine) (h : JE X Γ M o (fun x M1 => (∃ kvs, DicK M1 x kvs ∨ DicT M1 x kvs) ∧ JE X Γ M1 e (fun y M2 => ∃ z, DicHas M2 x y z ∧ Φ (z.getD .non) M2) Ψ) Ψ)
    (m : M1 X o "get" apos e cpos := by exact ⟨rfl, rfl, rfl, rfl⟩) : JE X Γ M (.Call (.Attribute o "get" apos) [e] [] cpos) Φ Ψ := fun B Hn H σ S A Q q => by
  refine run_pe (pe_dget1 hu pe_run pe_run m) ?_
  refine h B Hn H σ S A _ fun v d M1 Hn1 H1 p1 S1 e1 r1 => ?_
  obtain ⟨a, rfl, hd⟩ := DicK.isD S1.rep r1 p1.1
  refine ⟨a, rfl, hd, ?_⟩
  refine p1.2 B Hn1 H1 σ S1 (A.mono e1) _ fun u d2 M2 Hn2 H2 p2 S2 e2 r2 => ?_
  obtain ⟨z, hz, p2⟩ := p2
  obtain ⟨a', w, ea, g, _, ⟨d, e, rfl, rfl, re⟩ | ⟨rfl, rfl⟩⟩ := hz.get S2.rep (r1.mono e2) r2
  · cases ea
    exact ⟨_, g, q _ _ _ _ _ p2 S2 (e1.trans e2) re⟩
  · cases ea
    exact ⟨_, g, q _ _ _ _ _ p2 S2 (e1.trans e2) .non⟩
theorem je_get2 {f : Expr} (hu : X.A.units + 1 < cLine) (h : JE X Γ M o (fun x M1 => (∃ kvs, DicK M1 x kvs ∨ DicT M1 x kvs) ∧ JE X Γ M1 e (fun y M2 => JE X Γ M2 f (fun dflt M3 => ∃ z, DicHas M3 x y z ∧ Φ (z.getD dflt) M3) Ψ) Ψ) Ψ)
    (m : M2 X o "get" apos e f cpos := by exact ⟨rfl, rfl, rfl, rfl⟩) : JE X Γ M (.Call (.Attribute o "get" apos) [e, f] [] cpos) Φ Ψ := fun B Hn H σ S A Q q => by
  refine run_pe (pe_dget2 hu pe_run pe_run pe_run m) ?_
  refine h B Hn H σ S A _ fun v d M1 Hn1 H1 p1 S1 e1 r1 => ?_
  obtain ⟨a, rfl, hd⟩ := DicK.isD S1.rep r1 p1.1
  refine ⟨a, rfl, hd, ?_⟩
  refine p1.2 B Hn1 H1 σ S1 (A.mono e1) _ fun u d2 M2 Hn2 H2 p2 S2 e2 r2 => ?_
  refine p2 B Hn2 H2 σ S2 (A.mono (e1.trans e2)) _ fun t d3 M3 Hn3 H3 p3 S3 e3 r3 => ?_
  obtain ⟨z, hz, p3⟩ := p3
  obtain ⟨a', w, ea, g, _, ⟨d, e, rfl, rfl, re⟩ | ⟨rfl, rfl⟩⟩ := hz.get S3.rep ((r1.mono e2).mono e3) (r2.mono e3)
  · cases ea
    exact ⟨_, g, q _ _ _ _ _ p3 S3 ((e1.trans e2).trans e3) re⟩
  · cases ea
    exact ⟨_, g, q _ _ _ _ _ p3 S3 ((e1.trans e2).trans e3) r3⟩

/-! ### methods of built-in types -/
def MetD (X : Cx) (id : String) (x : D) (ds : List D) (M : Mem) (Φ : D → Mem → Prop) : Prop :=
  ∀ B Γ Hn H σ v vs (Q : VK), SR X.K B M Γ Hn H σ → Is X.K Hn v x → IsA X.K Hn vs ds → (∀ z d M' Hn' H', Φ d M' → SR X.K B M' Γ Hn' H' σ → Same Hn Hn' → Is X.K Hn' z d → Q z H') → ∃ r : V → List V → Hp → VK → Prop, MtR X id r ∧ r v vs H Q
def mAny (X : Cx) (id : String) : V → List V → Hp → VK → Prop := fun v vs H Q => ∃ r : V → List V → Hp → VK → Prop, MtR X id r ∧ r v vs H Q
theorem mt_any {X : Cx} {id : String} : MtR X id (mAny X id) := by
  intro pins s σ H x xs v us Q I rx rxs h
  obtain ⟨r, hr, h⟩ := h
  exact hr pins s σ H x xs v us Q I rx rxs h
/-- the receiver is of the built-in type T -/
def isTy (M : Mem) (T : String) (x : D) : Prop := (T = "str" ∧ ∃ z, x = .str z) ∨ (T = "list" ∧ ((∃ xs, x = .lst xs) ∨ ∃ (k : Nat) (t : Addr) (xs : List D), x = .raw (.ref t) ∧ M[k]? = some (t, .lst xs)))
theorem tyV_of {K : PySem.W.Frag} {M : Mem} {Hn H : Hp} {x : D} {v : V} {T : String} (R : Rep K M Hn H) (r : Is K Hn v x) (h : isTy M T x) : tyV K T v H := by
  rcases h with ⟨rfl, z, rfl⟩ | ⟨rfl, ⟨xs, rfl⟩ | ⟨k, t, xs, rfl, hk⟩⟩
  · cases r
    rfl
  · cases r with
    | @lst a ws _ h1 _ => exact .inl ⟨rfl, _, SqL.of (R.sub _ _ h1)⟩
  · cases r
    obtain ⟨ws, h1, _⟩ := (R.cell _ (List.mem_of_getElem? hk)).2
    exact .inl ⟨rfl, _, SqL.of h1⟩
theorem je_m {T id : String} {name : Str} (pa : PlainAttrs T) (slot : Slot T name id) (hty : typeOf (.builtin id) = pure (.type "method_descriptor")) (h : JE X Γ M o (fun x M1 => isTy M1 T x ∧ JA X Γ M1 (e :: es) (fun ds M2 => MetD X id x ds M2 Φ) Ψ) Ψ)
    (hbase : attributeBase o name X.env (eval o X.env) = eval o X.env := by rfl)
    (hfew : ((backTo cpos (starEach (e :: es) X.env)).all (fun x => !x.1) && (backToKw cpos (keywordEach [] X.env)).all (fun x => x.1.isSome) && decide ((e :: es).length + ([] : List Keyword).length + (if ([] : List Keyword).isEmpty then 0 else 1) < 30)) = true := by rfl)
    (hline : (apos.endLine == cpos.line) = true := by rfl) (hs : starEach (e :: es) X.env = (false, eval e X.env) :: starEach es X.env := by rfl) (hplain : (backTo cpos (starEach es X.env)).any (·.1) = false := by rfl) :
    JE X Γ M (.Call (.Attribute o name apos) (e :: es) [] cpos) Φ Ψ := fun B Hn H σ S A Q q => by
  refine run_pe (pe_bm pa slot hty mt_any pe_run pa_run hbase hfew hline hs hplain) ?_
  refine h B Hn H σ S A _ fun v x M1 Hn1 H1 p1 S1 e1 r1 => ⟨tyV_of S1.rep r1 p1.1, ?_⟩
  refine p1.2 B Hn1 H1 σ S1 (A.mono e1) _ fun vs ds M2 Hn2 H2 p2 S2 e2 r2 => ?_
  exact p2 B Γ Hn2 H2 σ v vs Q S2 (r1.mono e2) r2 fun z d M' Hn' H' p3 S3 e3 r3 => q z d M' Hn' H' p3 S3 ((e1.trans e2).trans e3) r3
theorem je_m0 {T id : String} {name : Str} (pa : PlainAttrs T) (slot : Slot T name id) (hty : typeOf (.builtin id) = pure (.type "method_descriptor")) (h : JE X Γ M o (fun x M1 => isTy M1 T x ∧ MetD X id x [] M1 Φ) Ψ)
    (hbase : attributeBase o name X.env (eval o X.env) = eval o X.env := by rfl) (hline : (apos.endLine == cpos.line) = true := by rfl) :
    JE X Γ M (.Call (.Attribute o name apos) [] [] cpos) Φ Ψ := fun B Hn H σ S A Q q => by
  refine run_pe (pe_bm0 pa slot hty mt_any pe_run hbase hline) ?_
  refine h B Hn H σ S A _ fun v x M1 Hn1 H1 p1 S1 e1 r1 => ⟨tyV_of S1.rep r1 p1.1, ?_⟩
  exact p1.2 B Γ Hn1 H1 σ v [] Q S1 r1 .nil fun z d M' Hn' H' p3 S3 e3 r3 => q z d M' Hn' H' p3 S3 (e1.trans e3) r3
/-- a text's own look -/
theorem md_isascii {z : Str} (h : Φ (.bl (Txt.isascii z)) M) : MetD X "str.isascii" (.str z) [] M Φ := fun B Γ Hn H σ v vs Q S r rr q => by
  cases r; cases rr
  exact ⟨_, mt_isascii, z, rfl, rfl, trivial, q _ _ _ _ _ h S (Same.refl _) (.bl _)⟩
theorem md_isalnum {z : Str} (h : Φ (.bl (Txt.isalnum z)) M) : MetD X "str.isalnum" (.str z) [] M Φ := fun B Γ Hn H σ v vs Q S r rr q => by
  cases r; cases rr
  exact ⟨_, mt_isalnum, z, rfl, rfl, trivial, q _ _ _ _ _ h S (Same.refl _) (.bl _)⟩
theorem md_islower {z : Str} (h : Φ (.bl (Txt.islower z)) M) : MetD X "str.islower" (.str z) [] M Φ := fun B Γ Hn H σ v vs Q S r rr q => by
  cases r; cases rr
  exact ⟨_, mt_islower, z, rfl, rfl, trivial, q _ _ _ _ _ h S (Same.refl _) (.bl _)⟩
theorem md_isalpha {z : Str} (h : Φ (.bl (Txt.isalpha z)) M) : MetD X "str.isalpha" (.str z) [] M Φ := fun B Γ Hn H σ v vs Q S r rr q => by
  cases r; cases rr
  exact ⟨_, mt_isalpha, z, rfl, rfl, trivial, q _ _ _ _ _ h S (Same.refl _) (.bl _)⟩
/-- append, pop of a list that may change -/
theorem md_append (k : Nat) {t : Addr} {xs : List D} {d : D} (hk : M[k]? = some (t, .lst xs)) (hl : xs.length < 1000000) (h : Φ .non (M.set k (t, .lst (xs ++ [d])))) : MetD X "list.append" (.raw (.ref t)) [d] M Φ := fun B Γ Hn H σ v vs Q S r rr q => by
  cases r
  obtain ⟨u, rfl, ru⟩ := rr.one
  obtain ⟨ws, h1, r1⟩ := (S.rep.cell _ (List.mem_of_getElem? hk)).2
  refine ⟨_, mt_append, t, ws, u, rfl, rfl, h1, by rw [r1.length, sizeLine_eq]; omega, ?_⟩
  exact q _ _ _ _ _ h (S.put hk ⟨_, upd_same, r1.append (.cons ru .nil)⟩) (Same.refl _) .non
theorem md_popAt (k : Nat) {t : Addr} {xs : List D} {i : Int} {j : Nat} {d : D} (hk : M[k]? = some (t, .lst xs)) (hb : -(2 ^ 63) ≤ i ∧ i < 2 ^ 63) (hj : seqIndex? i xs.length = some j) (hd : xs[j]? = some d) (h : Φ d (M.set k (t, .lst (xs.eraseIdx j)))) :
    MetD X "list.pop" (.raw (.ref t)) [.int i] M Φ := fun B Γ Hn H σ v vs Q S r rr q => by
  cases r
  obtain ⟨u, rfl, ru⟩ := rr.one
  cases ru
  obtain ⟨ws, h1, r1⟩ := (S.rep.cell _ (List.mem_of_getElem? hk)).2
  obtain ⟨y, hy, ry⟩ := r1.get hd
  refine ⟨_, mt_popAt, t, ws, i, j, y, rfl, rfl, h1, hb.1, hb.2, by rw [r1.length]; exact hj, hy, ?_⟩
  exact q _ _ _ _ _ h (S.put hk ⟨_, upd_same, r1.erase j⟩) (Same.refl _) ry

/-! ### fields -/
theorem je_fld {f : Str} (h : JE X Γ M e (fun x M1 => ∃ C fs d, x = .ins C fs ∧ Cls X.K C ∧ NoAttr X.K C f ∧ fs.lookup f = some d ∧ Φ d M1) Ψ) (hb : attributeBase e f X.env (eval e X.env) = eval e X.env := by rfl) : JE X Γ M (.Attribute e f pos) Φ Ψ := fun B Hn H σ S A Q q => by
  refine run_pe (pe_fld pe_run hb) ?_
  refine h B Hn H σ S A _ fun v x M1 Hn1 H1 p1 S1 e1 r1 => ?_
  obtain ⟨C, fs, d, rfl, c, n, hl, p1⟩ := p1
  cases r1 with
  | @ins a _ dx gs _ h1 rf =>
    obtain ⟨w, hw, rw'⟩ := rf.get hl
    exact ⟨a, C, dx, gs, w, rfl, S1.rep.sub _ _ h1, c, n, hw, q _ _ _ _ _ p1 S1 e1 rw'⟩
/-- a field of an instance that may change -/
theorem je_fldC (k : Nat) {f : Str} (h : JE X Γ M e (fun x M1 => ∃ t C fs d, x = .raw (.ref t) ∧ M1[k]? = some (t, .ins C fs) ∧ Cls X.K C ∧ NoAttr X.K C f ∧ fs.lookup f = some d ∧ Φ d M1) Ψ) (hb : attributeBase e f X.env (eval e X.env) = eval e X.env := by rfl) : JE X Γ M (.Attribute e f pos) Φ Ψ := fun B Hn H σ S A Q q => by
  refine run_pe (pe_fld pe_run hb) ?_
  refine h B Hn H σ S A _ fun v x M1 Hn1 H1 p1 S1 e1 r1 => ?_
  obtain ⟨t, C, fs, d, rfl, hk, c, n, hl, p1⟩ := p1
  cases r1
  obtain ⟨dx, gs, h1, rf⟩ := (S1.rep.cell _ (List.mem_of_getElem? hk)).2
  obtain ⟨w, hw, rw'⟩ := rf.get hl
  exact ⟨t, C, dx, gs, w, rfl, h1, c, n, hw, q _ _ _ _ _ p1 S1 e1 rw'⟩
end
end DL
end

section
set_option Elab.async false
set_option linter.all false
set_option maxRecDepth 100000
set_option maxHeartbeats 4000000
/-! Defs over data: their promises, their calls; statements. -/
namespace DL
open PySem PySem.Spec PyProof.Rows L2

/-- a promise over data: arguments, cells, what is wanted of the value and the cells, of what is raised -/
abbrev Spec := List D → Mem → (D → Mem → Prop) → XP → Prop
def spD (K : PySem.W.Frag) (spec : Spec) : Sp := fun vs H Q E => ∃ (ds : List D) (M : Mem) (Hn : Hp) (Φ : D → Mem → Prop) (Ψ : XP), IsA K Hn vs ds ∧ Rep K M Hn H ∧ spec ds M Φ Ψ ∧
  (∀ v d M' Hn' H', Φ d M' → Rep K M' Hn' H' → Step (M.map (·.1)) Hn H Hn' H' → M'.map (·.1) = M.map (·.1) → Is K Hn' v d → Q v H') ∧
  (∀ x M' Hn' H' cls dd, Ψ x M' → Rep K M' Hn' H' → Step (M.map (·.1)) Hn H Hn' H' → M'.map (·.1) = M.map (·.1) → ExIs K Hn' cls dd x → E cls dd H')

section
variable {K : PySem.W.Frag} {B : Bas} {M M' M0 M0' : Mem} {Γ : Sl} {Hn H Hn' H' : Hp} {σ : L2.St}
/-- behind a call that was handed the cells M0 -/
theorem SR.call (S : SR K B M Γ Hn H σ) (h0 : ∀ p ∈ M0, p ∈ M) (R : Rep K M0' Hn' H') (st : Step (M0.map (·.1)) Hn H Hn' H') (e0 : M0'.map (·.1) = M0.map (·.1)) (e : M'.map (·.1) = M.map (·.1))
    (hm : ∀ p ∈ M', p ∈ M0' ∨ (p ∈ M ∧ p.1 ∉ M0.map (·.1))) : SR K B M' Γ Hn' H' σ := by
  refine ⟨⟨R.sub, fun p hp => ?_, by rw [e]; exact S.rep.nd⟩, ⟨S.step.nn.trans st.nn, fun a o ha ho => ?_, fun a ha => st.there a (S.step.there a ha), fun a hn n => ?_, fun a xs ea => ?_⟩, fun p hp => ?_, by rw [e]; exact S.pre, fun i d hd => ?_⟩
  · rcases hm p hp with h | ⟨h, hn⟩
    · exact R.cell p h
    · obtain ⟨c1, c2⟩ := S.rep.cell p h
      obtain ⟨o, ho⟩ := c2.there
      have hk := st.keep p.1 o hn ho
      refine ⟨?_, c2.mono st.nn (hk.trans ho.symm)⟩
      cases q : Hn' p.1 with
      | none => rfl
      | some u =>
        rcases st.new p.1 c1 (by rw [q]; simp) with z | ⟨xs, z⟩
        · rw [ho] at z
          cases z
        · exact absurd z (c2.notTup xs)
  · have h1 := S.step.keep a o ha ho
    refine st.keep a o (fun hm0 => ?_) h1
    obtain ⟨p, hp, rfl⟩ := List.mem_map.mp hm0
    rcases S.loc p (h0 p hp) with q | q
    · exact ha q
    · rw [q] at ho
      cases ho
  · cases q : Hn a with
    | none => exact S.step.fre (st.new a q n)
    | some o => exact S.step.new a hn (by rw [q]; simp)
  · rcases st.nt a xs ea with h | h
    · exact .inl (S.step.back h)
    · exact S.step.nt a xs h
  · have : p.1 ∈ M.map (·.1) := by rw [← e]; exact List.mem_map_of_mem hp
    obtain ⟨q, hq, eq⟩ := List.mem_map.mp this
    rw [← eq]
    exact S.loc q hq
  · obtain ⟨v, h1, h2⟩ := S.sl i d hd
    exact ⟨v, h1, h2.mono st.nn⟩
theorem Rep.part (R : Rep K M Hn H) (h0 : ∀ p ∈ M0, p ∈ M) (hn : (M0.map (·.1)).Nodup) : Rep K M0 Hn H := ⟨R.sub, fun p hp => R.cell p (h0 p hp), hn⟩
theorem map_set {M : Mem} {k : Nat} {a : Addr} {c c' : Cell} (hk : M[k]? = some (a, c)) : (M.set k (a, c')).map (·.1) = M.map (·.1) := by
  have hlt := (List.getElem?_eq_some_iff.mp hk).1
  rw [List.map_set]
  refine List.ext_getElem? fun j => ?_
  by_cases hj : k = j
  · subst hj
    rw [List.getElem?_set_self (by simpa using hlt), List.getElem?_map, hk]
    rfl
  · rw [List.getElem?_set_ne hj]
theorem mem_set_of {M : Mem} {k : Nat} {a : Addr} {c c' : Cell} (nd : (M.map (·.1)).Nodup) (hk : M[k]? = some (a, c)) : ∀ p ∈ M.set k (a, c'), p ∈ [(a, c')] ∨ (p ∈ M ∧ p.1 ∉ [(a, c)].map (·.1)) := fun p hp => by
  have hlt := (List.getElem?_eq_some_iff.mp hk).1
  obtain ⟨j, hj⟩ := List.getElem?_of_mem hp
  by_cases hkj : k = j
  · subst hkj
    rw [List.getElem?_set_self hlt] at hj
    cases hj
    exact .inl (List.mem_singleton.mpr rfl)
  · rw [List.getElem?_set_ne hkj] at hj
    refine .inr ⟨List.mem_of_getElem? hj, fun z => ?_⟩
    have e : p.1 = a := by simpa using z
    have h1 : (M.map (·.1))[j]? = some p.1 := by rw [List.getElem?_map, hj]; rfl
    have h2 : (M.map (·.1))[k]? = some a := by rw [List.getElem?_map, hk]; rfl
    rw [e] at h1
    exact hkj (nd_ix nd h2 h1)
end

/-! ### what a call uses -/
/-- a def, by its name: its promise, its defaults' data -/
structure GFn (P : Program) (w : World) (K : PySem.W.Frag) (mg : Str → Option Value) (base : Heap) (k : Nat) (x : Str) (dds : List D) (spec : Spec) : Prop where
  ex : ∃ (f : Addr) (fd : FuncData) (ps : List Str) (us : List Value) (dvs : List V), FnOk P w K mg base (L2.CX P w) k f fd ps (spD K spec) ∧ mg x = some (.ref f) ∧ PySem.W.keepIn K (.ref f) = true ∧ Binds K fd ps us ∧ Vals dvs us ∧ ∀ Hn, IsA K Hn dvs dds
/-- which cells a call is handed: none, the one at k -/
inductive Use (spec : Spec) (ds : List D) (M : Mem) (Φ : D → Mem → Prop) (Ψ : XP) : Prop
  | none (h : spec ds [] (fun d _ => Φ d M) (fun x _ => Ψ x M))
  | one (k : Nat) (a : Addr) (c : Cell) (hk : M[k]? = some (a, c)) (h : spec ds [(a, c)] (fun d M' => ∀ c', M' = [(a, c')] → Φ d (M.set k (a, c'))) (fun x M' => ∀ c', M' = [(a, c')] → Ψ x (M.set k (a, c'))))
section
variable {X : Cx} {Γ : Sl} {M : Mem} {Φ : D → Mem → Prop} {Ψ : XP} {a b c e o : Expr} {es : List Expr} {pos p pos2 apos cpos : Pos} {spec : Spec} {k : Nat} {dds : List D}
theorem one_of {M' : Mem} {a : Addr} {c : Cell} (e : M'.map (·.1) = [(a, c)].map (·.1)) : ∃ c', M' = [(a, c')] := by
  cases M' with
  | nil => cases e
  | cons q r =>
    cases r with
    | nil =>
      obtain ⟨a', c'⟩ := q
      have : a' = a := by simpa using e
      subst this
      exact ⟨c', rfl⟩
    | cons q2 r => simp at e
/-- the promise, as the layer wants it, from what is used -/
theorem Use.sp {B : Bas} {Hn H : Hp} {σ : L2.St} {ds : List D} {vs : List V} {Q : VK} (S : SR X.K B M Γ Hn H σ) (A : Air X B Γ Hn σ Ψ) (r : IsA X.K Hn vs ds) (u : Use spec ds M Φ Ψ)
    (q : ∀ z d M' Hn' H', Φ d M' → SR X.K B M' Γ Hn' H' σ → Same Hn Hn' → Is X.K Hn' z d → Q z H') : spD X.K spec vs H Q (fun cls d H' => AirOk X cls d σ H') := by
  cases u with
  | none h =>
    refine ⟨ds, [], Hn, _, _, r, S.rep.part (fun p hp => by simp at hp) (by simp), h, fun v d M' Hn' H' p R st e rv => ?_, fun x M' Hn' H' cls dd p R st e ri => ?_⟩
    · exact q v d M Hn' H' p (S.call (M0 := []) (fun p hp => by simp at hp) R st e rfl fun p hp => .inr ⟨hp, by simp⟩) st.nn rv
    · exact A x M Hn' H' cls dd p (S.call (M0 := []) (fun p hp => by simp at hp) R st e rfl fun p hp => .inr ⟨hp, by simp⟩) st.nn ri
  | one k a c hk h =>
    have hm : ∀ p ∈ [(a, c)], p ∈ M := fun p hp => by
      rw [List.mem_singleton.mp hp]
      exact List.mem_of_getElem? hk
    refine ⟨ds, [(a, c)], Hn, _, _, r, S.rep.part hm (by simp), h, fun v d M' Hn' H' p R st e rv => ?_, fun x M' Hn' H' cls dd p R st e ri => ?_⟩
    · obtain ⟨c', rfl⟩ := one_of e
      exact q v d _ Hn' H' (p c' rfl) (S.call hm R st e (map_set hk) (mem_set_of S.rep.nd hk)) st.nn rv
    · obtain ⟨c', rfl⟩ := one_of e
      exact A x _ Hn' H' cls dd (p c' rfl) (S.call hm R st e (map_set hk) (mem_set_of S.rep.nd hk)) st.nn ri
theorem pass_air {σ : L2.St} : PassesAt (L2.CX X.prog X.w) X σ (fun cls d H' => AirOk X cls d σ H') := passAt (W := fun cls d σ H => AirOk X cls d σ H) takes_air σ
theorem je_call {x : Str} (G : GFn X.prog X.w X.K X.mg X.base k x dds spec) (hr : Room k X.A) (h : JA X Γ M (e :: es) (fun ds M1 => Use spec (ds ++ dds) M1 Φ Ψ) Ψ) (hg : Gl X x := by rfl) (hdb : (x == ("__debug__" : Str)) = false := by decide)
    (he : starEach (e :: es) X.env = (false, eval e X.env) :: starEach es X.env := by rfl) (hpl : (backTo pos (starEach es X.env)).any (·.1) = false := by rfl) : JE X Γ M (.Call (.Name x p) (e :: es) [] pos) Φ Ψ := fun B Hn H σ S A Q q => by
  obtain ⟨f, fd, ps, us, dvs, F, hm, hk, hb, hv, hd⟩ := G.ex
  refine run_pe (pe_callSD (E := fun σ cls d H' => AirOk X cls d σ H') F hr hg hm hk hb hv (fun σ => pass_air) pa_run hdb he hpl) ?_
  refine h B Hn H σ S A _ fun vs ds M1 Hn1 H1 p1 S1 e1 r1 => ?_
  exact p1.sp S1 (A.mono e1) (r1.append (hd _)) fun z d M' Hn' H' p2 S2 e2 r2 => q z d M' Hn' H' p2 S2 (e1.trans e2) r2

/-! ### methods -/
structure GMe (P : Program) (w : World) (K : PySem.W.Frag) (mg : Str → Option Value) (base : Heap) (k : Nat) (C : Addr) (m : Str) (dds : List D) (spec : Spec) : Prop where
  cl : Cls K C
  ex : ∃ (f : Addr) (fd : FuncData) (ps : List Str) (us : List Value) (dvs : List V), FnOk P w K mg base (L2.CX P w) k f fd ps (spD K spec) ∧ Meth K C m f ∧ Binds K fd ps us ∧ Vals dvs us ∧ ∀ Hn, IsA K Hn dvs dds
def tMethSD (C : Addr) (m : Str) (sp : Sp) (dvs : List V) (E : L2.St → XK) (ta : TE) (t : TA) : TE := fun σ H Q => ta σ H fun x H1 => ∃ a dx fs, x = .ref a ∧ H1 a = some (.ins C dx fs) ∧ fs.lookup m = none ∧ t σ H1 fun vs H2 => sp (x :: (vs ++ dvs)) H2 Q (E σ)
theorem pe_methSD {C f : Addr} {fd : FuncData} {ps : List Str} {sp : Sp} {us : List Value} {dvs : List V} {E : L2.St → XK} {m : Str} {ta : TE} {t : TA} {pl : Sem Bool} (ho : PE X o ta) (cl : Cls X.K C) (hme : Meth X.K C m f) (F : FnOk X.prog X.w X.K X.mg X.base (L2.CX X.prog X.w) k f fd ps sp)
    (hr : Room k X.A) (hbi : Binds X.K fd ps us) (hdv : Vals dvs us) (hpa : ∀ σ, PassesAt (L2.CX X.prog X.w) X σ (E σ)) (har : PA X (e :: es) t)
    (hst : starEach (e :: es) X.env = (false, eval e X.env) :: starEach es X.env := by rfl) (hpl : (backTo pos (starEach es X.env)).any (·.1) = false := by rfl)
    (ht : eval (.Call (.Attribute o m apos) (e :: es) [] pos) X.env = (do
      let rcv ← eval o X.env
      standAt apos.atName
      let (g, fst) ← holding [rcv] (getMethod rcv m pl)
      callWith pos g fst (backTo pos (starEach (e :: es) X.env)) (backToKw pos (keywordEach [] X.env))) := by rfl) :
    PE X (.Call (.Attribute o m apos) (e :: es) [] pos) (tMethSD C m sp dvs E ta t) := by
  refine ⟨fun pins s σ H Q I h => ?_⟩
  refine PySem.W.methodCall_KW (pl := pl) (thn (ho.run pins s σ H _ I h) fun u s1 hu => ?_) ht
  obtain ⟨x, H1, I1, rx, a, dx, fs, ex, ea, hl, q1⟩ := hu
  subst ex
  obtain rfl : u = Value.ref a := rx
  refine getmeth_ok I1 ea cl hme hl ?_
  refine PySem.W.callWith_K (first := [.ref a]) (h₀ := X.base) I.ok.mod.kin hme.kp (thn (har.run pos pins s1 σ H1 _ I1 q1) fun ws s2 hw => ?_) hst hpl
  obtain ⟨vs, H2, I2, r, q2⟩ := hw
  exact ⟨I2.kIn, run_fnSD (us := .ref a :: ws) (vs := .ref a :: vs) F hr hbi hdv (hpa σ) I2 (.cons rfl r) q2⟩
theorem pe_meth0SD {C f : Addr} {fd : FuncData} {ps : List Str} {sp : Sp} {us : List Value} {dvs : List V} {E : L2.St → XK} {m : Str} {ta : TE} {pl : Sem Bool} (ho : PE X o ta) (cl : Cls X.K C) (hme : Meth X.K C m f) (F : FnOk X.prog X.w X.K X.mg X.base (L2.CX X.prog X.w) k f fd ps sp)
    (hr : Room k X.A) (hbi : Binds X.K fd ps us) (hdv : Vals dvs us) (hpa : ∀ σ, PassesAt (L2.CX X.prog X.w) X σ (E σ))
    (ht : eval (.Call (.Attribute o m apos) [] [] pos) X.env = (do
      let rcv ← eval o X.env
      standAt apos.atName
      let (g, fst) ← holding [rcv] (getMethod rcv m pl)
      callWith pos g fst (backTo pos (starEach [] X.env)) (backToKw pos (keywordEach [] X.env))) := by rfl) :
    PE X (.Call (.Attribute o m apos) [] [] pos) (tMethSD C m sp dvs E ta tNil) := by
  refine ⟨fun pins s σ H Q I h => ?_⟩
  refine PySem.W.methodCall_KW (pl := pl) (thn (ho.run pins s σ H _ I h) fun u s1 hu => ?_) ht
  obtain ⟨x, H1, I1, rx, a, dx, fs, ex, ea, hl, q1⟩ := hu
  subst ex
  obtain rfl : u = Value.ref a := rx
  refine getmeth_ok I1 ea cl hme hl ?_
  exact PySem.W.callWith_K0 (first := [.ref a]) I1.kIn hme.kp (run_fnSD (us := [.ref a]) (vs := [.ref a]) F hr hbi hdv (hpa σ) I1 (.cons rfl .nil) q1)
/-- the receiver is an instance of the class at C: data, or a cell -/
def InsAt (M : Mem) (C : Addr) (m : Str) (x : D) : Prop := (∃ fs, x = .ins C fs ∧ fs.lookup m = none) ∨ ∃ (k : Nat) (t : Addr) (fs : List (Str × D)), x = .raw (.ref t) ∧ M[k]? = some (t, .ins C fs) ∧ fs.lookup m = none
theorem InsAt.at {K : PySem.W.Frag} {Hn H : Hp} {C : Addr} {m : Str} {x : D} {v : V} (R : Rep K M Hn H) (r : Is K Hn v x) (h : InsAt M C m x) : ∃ a dx fs, v = .ref a ∧ H a = some (.ins C dx fs) ∧ fs.lookup m = none := by
  rcases h with ⟨fs, rfl, hl⟩ | ⟨k, t, fs, rfl, hk, hl⟩
  · cases r with
    | @ins a _ dx gs _ h1 rf => exact ⟨a, dx, gs, rfl, R.sub _ _ h1, rf.none hl⟩
  · cases r
    obtain ⟨dx, gs, h1, rf⟩ := (R.cell _ (List.mem_of_getElem? hk)).2
    exact ⟨t, dx, gs, rfl, h1, rf.none hl⟩
theorem je_meth {C : Addr} {m : Str} {pl : Sem Bool} (G : GMe X.prog X.w X.K X.mg X.base k C m dds spec) (hr : Room k X.A) (h : JE X Γ M o (fun x M1 => InsAt M1 C m x ∧ JA X Γ M1 (e :: es) (fun ds M2 => Use spec (x :: (ds ++ dds)) M2 Φ Ψ) Ψ) Ψ)
    (hst : starEach (e :: es) X.env = (false, eval e X.env) :: starEach es X.env := by rfl) (hpl : (backTo pos (starEach es X.env)).any (·.1) = false := by rfl)
    (ht : eval (.Call (.Attribute o m apos) (e :: es) [] pos) X.env = (do
      let rcv ← eval o X.env
      standAt apos.atName
      let (g, fst) ← holding [rcv] (getMethod rcv m pl)
      callWith pos g fst (backTo pos (starEach (e :: es) X.env)) (backToKw pos (keywordEach [] X.env))) := by rfl) : JE X Γ M (.Call (.Attribute o m apos) (e :: es) [] pos) Φ Ψ := fun B Hn H σ S A Q q => by
  obtain ⟨f, fd, ps, us, dvs, F, hm, hb, hv, hd⟩ := G.ex
  refine run_pe (pe_methSD (E := fun σ cls d H' => AirOk X cls d σ H') pe_run G.cl hm F hr hb hv (fun σ => pass_air) pa_run hst hpl ht) ?_
  refine h B Hn H σ S A _ fun v x M1 Hn1 H1 p1 S1 e1 r1 => ?_
  obtain ⟨a, dx, fs, rfl, ha, hl⟩ := p1.1.at S1.rep r1
  refine ⟨a, dx, fs, rfl, ha, hl, ?_⟩
  refine p1.2 B Hn1 H1 σ S1 (A.mono e1) _ fun vs ds M2 Hn2 H2 p2 S2 e2 r2 => ?_
  exact p2.sp S2 (A.mono (e1.trans e2)) (.cons (r1.mono e2) (r2.append (hd _))) fun z d M' Hn' H' p3 S3 e3 r3 => q z d M' Hn' H' p3 S3 ((e1.trans e2).trans e3) r3
theorem je_meth0 {C : Addr} {m : Str} {pl : Sem Bool} (G : GMe X.prog X.w X.K X.mg X.base k C m dds spec) (hr : Room k X.A) (h : JE X Γ M o (fun x M1 => InsAt M1 C m x ∧ Use spec (x :: dds) M1 Φ Ψ) Ψ)
    (ht : eval (.Call (.Attribute o m apos) [] [] pos) X.env = (do
      let rcv ← eval o X.env
      standAt apos.atName
      let (g, fst) ← holding [rcv] (getMethod rcv m pl)
      callWith pos g fst (backTo pos (starEach [] X.env)) (backToKw pos (keywordEach [] X.env))) := by rfl) : JE X Γ M (.Call (.Attribute o m apos) [] [] pos) Φ Ψ := fun B Hn H σ S A Q q => by
  obtain ⟨f, fd, ps, us, dvs, F, hm, hb, hv, hd⟩ := G.ex
  refine run_pe (pe_meth0SD (E := fun σ cls d H' => AirOk X cls d σ H') pe_run G.cl hm F hr hb hv (fun σ => pass_air) ht) ?_
  refine h B Hn H σ S A _ fun v x M1 Hn1 H1 p1 S1 e1 r1 => ?_
  obtain ⟨a, dx, fs, rfl, ha, hl⟩ := p1.1.at S1.rep r1
  refine ⟨a, dx, fs, rfl, ha, hl, ?_⟩
  exact p1.2.sp S1 (A.mono e1) (.cons r1 (hd _)) fun z d M' Hn' H' p3 S3 e3 r3 => q z d M' Hn' H' p3 S3 (e1.trans e3) r3

/-! ### instances made -/
structure GMk (P : Program) (w : World) (K : PySem.W.Frag) (mg : Str → Option Value) (base : Heap) (k : Nat) (x : Str) (C : Addr) (dds : List D) (spec : Spec) : Prop where
  hm : mg x = some (.ref C)
  ex : ∃ (f : Addr) (fd : FuncData) (ps : List Str) (us : List Value) (dvs : List V), FnOk P w K mg base (L2.CX P w) k f fd ps (spD K spec) ∧ Mk K C f ∧ Binds K fd ps us ∧ Vals dvs us ∧ ∀ Hn, IsA K Hn dvs dds
def tMakeSD (C : Addr) (sp : Sp) (dvs : List V) (E : L2.St → XK) (t : TA) : TE := fun σ H Q => t σ H fun vs H1 => ∀ x dx, H1 x = none → H1 dx = none → dx ≠ x →
  sp (.ref x :: (vs ++ dvs)) (upd (upd H1 dx (.own x)) x (.ins C dx [])) (fun v H2 => v = .non ∧ Q (.ref x) H2) (E σ)
theorem pe_makeSD {C f : Addr} {fd : FuncData} {ps : List Str} {sp : Sp} {us : List Value} {dvs : List V} {E : L2.St → XK} {x : Str} {t : TA} (MK : Mk X.K C f) (F : FnOk X.prog X.w X.K X.mg X.base (L2.CX X.prog X.w) k f fd ps sp) (hr : Room (k + 1) X.A) (hg : Gl X x) (hmg : X.mg x = some (.ref C))
    (hbi : Binds X.K fd ps us) (hdv : Vals dvs us) (hpa : ∀ σ, PassesAt (L2.CX X.prog X.w) X σ (E σ)) (har : PA X (e :: es) t) (hdb : (x == ("__debug__" : Str)) = false := by decide)
    (hst : starEach (e :: es) X.env = (false, eval e X.env) :: starEach es X.env := by rfl) (hpl : (backTo pos (starEach es X.env)).any (·.1) = false := by rfl) :
    PE X (.Call (.Name x p) (e :: es) [] pos) (tMakeSD C sp dvs E t) := by
  refine ⟨fun pins s σ H Q I h => ?_⟩
  refine wpAny_Call_Name_kw (ld_glob I hg hmg ?_ hdb)
  refine PySem.W.callWith_K (h₀ := X.base) I.ok.mod.kin MK.kp (thn (har.run pos pins s σ H _ I h) fun ws s1 hw => ?_) hst hpl
  obtain ⟨vs, H1, I1, r, q1⟩ := hw
  refine ⟨I1.kIn, ?_⟩
  have q2 := q1 (s1.heap.objs.size + 1) s1.heap.objs.size (I1.hok.fresh (Nat.le_succ _)) (I1.hok.fresh (Nat.le_refl _)) (Nat.ne_of_lt (Nat.lt_succ_self _))
  have J := Inv.made (C := C) I1
  have rr : Vals (V.ref (s1.heap.objs.size + 1) :: (vs ++ dvs)) (Value.ref (s1.heap.objs.size + 1) :: (ws ++ us)) := .cons rfl (r.append hdv)
  have hlen : (Value.ref (s1.heap.objs.size + 1) :: ws ++ us).length = ps.length := (F.len _ _ _ _ q2 ▸ rr.length).symm
  show wpAny _ _ (call (.ref C) ws) _ _ _
  refine wpAny_call (make_map (f := f) I1.kIn MK.makes MK.init (beq_iff_eq.mp MK.fn) (codeAny_mono (F.run _ X.stack _ _ ⟨Value.ref (s1.heap.objs.size + 1) :: ws, []⟩ (Value.ref (s1.heap.objs.size + 1) :: (ws ++ us)) _ _ (E σ) (hr.make C ws []) (J.env0.make C ws [])
    (hbi _ (Value.ref (s1.heap.objs.size + 1) :: ws) J.kIn hlen) rr q2) fun res s' hres => ?_))
  cases res with
  | error er => exact hpa σ pins _ _ er s' J hres
  | ok fl =>
    cases fl with
    | next => exact False.elim hres
    | brk => exact False.elim hres
    | cont => exact False.elim hres
    | ret u =>
      obtain ⟨v, H', J', rv, ev, q3⟩ := J.after hres
      subst ev
      exact ⟨rv, V.ref (s1.heap.objs.size + 1), H', J', rfl, q3⟩
/-- C(e, ..): the instance as data from then on -/
theorem je_make {C : Addr} {x : Str} (G : GMk X.prog X.w X.K X.mg X.base k x C dds spec) (hr : Room (k + 1) X.A)
    (h : JA X Γ M (e :: es) (fun ds M1 => ∀ t, spec (.raw (.ref t) :: (ds ++ dds)) [(t, .ins C [])] (fun d M' => d = .non ∧ ∃ fs, M' = [(t, .ins C fs)] ∧ Φ (.ins C fs) M1) (fun x M' => Ψ x M1)) Ψ) (hg : Gl X x := by rfl) (hdb : (x == ("__debug__" : Str)) = false := by decide)
    (hst : starEach (e :: es) X.env = (false, eval e X.env) :: starEach es X.env := by rfl) (hpl : (backTo pos (starEach es X.env)).any (·.1) = false := by rfl) : JE X Γ M (.Call (.Name x p) (e :: es) [] pos) Φ Ψ := fun B Hn H σ S A Q q => by
  obtain ⟨f, fd, ps, us, dvs, F, MK, hb, hv, hd⟩ := G.ex
  refine run_pe (pe_makeSD (E := fun σ cls d H' => AirOk X cls d σ H') MK F hr hg G.hm hb hv (fun σ => pass_air) pa_run hdb hst hpl) ?_
  refine h B Hn H σ S A _ fun vs ds M1 Hn1 H1 p1 S1 e1 r1 => fun t dx ht hdx hne => ?_
  have S2 := S1.allocH (o := .own t) hdx
  have ht2 : upd H1 dx (.own t) t = none := by rw [upd_ne (Ne.symm hne)]; exact ht
  have S3 := S2.cell (c := .ins C []) (o := .ins C dx []) ht2 ⟨dx, [], upd_same, .nil⟩
  have hn := S1.rep.nn ht
  refine ⟨_, [(t, .ins C [])], Hn1, _, _, .cons (.raw _) (r1.append (hd _)), S3.rep.part (fun p hp => List.mem_append_right _ hp) (by simp), p1 t, fun v d M' Hn' H' p2 R st eM rv => ?_, fun x M' Hn' H' cls dd p2 R st eM ri => ?_⟩
  · obtain ⟨rfl, fs, rfl, p2⟩ := p2
    cases rv
    refine ⟨rfl, ?_⟩
    -- the instance becomes data
    have S4 : SR X.K B (M1 ++ [(t, .ins C fs)]) Γ Hn' H' σ := S3.call (M0 := [(t, .ins C [])]) (fun p hp => List.mem_append_right _ hp) R st eM (by simp) fun p hp => by
      rcases List.mem_append.mp hp with hp | hp
      · refine .inr ⟨List.mem_append_left _ hp, fun z => ?_⟩
        have z : p.1 = t := by simpa using z
        exact S1.rep.ne hp ht z
      · exact .inl hp
    obtain ⟨dx', gs, h1, rf⟩ := (S4.rep.cell (t, .ins C fs) (List.mem_append_right _ (List.mem_singleton.mpr rfl))).2
    have S5 := S4.toData (c := .ins C fs) (k := M1.length) (o := .ins C dx' gs) (by simp) h1 S1.few
    rw [erase_last] at S5
    have hn' : Hn' t = none := (R.cell (t, .ins C fs) (List.mem_singleton.mpr rfl)).1
    exact q _ _ _ _ _ p2 S5 ((e1.trans st.nn).trans (same_upd hn')) (.ins upd_same (rf.mono (same_upd hn')))
  · have em : ∃ c', M' = [(t, c')] := one_of eM
    obtain ⟨c', rfl⟩ := em
    have S4 : SR X.K B (M1 ++ [(t, c')]) Γ Hn' H' σ := S3.call (M0 := [(t, .ins C [])]) (fun p hp => List.mem_append_right _ hp) R st eM (by simp) fun p hp => by
      rcases List.mem_append.mp hp with hp | hp
      · refine .inr ⟨List.mem_append_left _ hp, fun z => ?_⟩
        have z : p.1 = t := by simpa using z
        exact S1.rep.ne hp ht z
      · exact .inl hp
    have S5 := S4.drop (k := M1.length) S1.few
    rw [erase_last] at S5
    exact A x M1 Hn' H' cls dd p2 S5 (e1.trans st.nn) ri
end
end DL
end

section
set_option Elab.async false
set_option linter.all false
set_option maxRecDepth 100000
set_option maxHeartbeats 4000000
/-! Statements over data; the rule for a def. -/
namespace DL
open PySem PySem.Spec PyProof.Rows L2

/-- what is wanted behind a statement -/
structure Post where
  nx : Sl → Mem → Prop
  rt : D → Mem → Prop
  bk : Sl → Mem → Prop := fun _ _ => False
  ct : Sl → Mem → Prop := fun _ _ => False
  ex : Exn → Sl → Mem → Prop := fun _ _ _ => False
def RunS (X : Cx) (st : Stmt) (σ : L2.St) (H : Hp) (De : Ends) : Prop := ∀ pins s, Inv X pins σ H s → wpAny (model X.prog X.w) X.A (exec st X.env) (SP X pins De) X.xe s
theorem ps_run {X : Cx} {st : Stmt} : PS X st (fun De σ H => RunS X st σ H De) := ⟨fun pins s σ H De I h => h pins s I⟩
theorem run_ps {X : Cx} {st : Stmt} {t : TS} (h : PS X st t) {σ : L2.St} {H : Hp} {De : Ends} (q : t De σ H) : RunS X st σ H De := fun pins s I => h.run pins s σ H De I q
def RunSs (X : Cx) (st : List Stmt) (σ : L2.St) (H : Hp) (De : Ends) : Prop := ∀ pins s, Inv X pins σ H s → wpAny (model X.prog X.w) X.A (execs st X.env) (SP X pins De) X.xe s
theorem pss_run {X : Cx} {st : List Stmt} : PSs X st (fun De σ H => RunSs X st σ H De) := ⟨fun pins s σ H De I h => h pins s I⟩
theorem run_pss {X : Cx} {st : List Stmt} {t : TS} (h : PSs X st t) {σ : L2.St} {H : Hp} {De : Ends} (q : t De σ H) : RunSs X st σ H De := fun pins s I => h.run pins s σ H De I q

/-- the ends give what is wanted -/
structure PostOk (X : Cx) (B : Bas) (P : Post) (De : Ends) : Prop where
  nx : ∀ Γ M Hn H σ, P.nx Γ M → SR X.K B M Γ Hn H σ → De.nx σ H
  bk : ∀ Γ M Hn H σ, P.bk Γ M → SR X.K B M Γ Hn H σ → De.bk σ H
  ct : ∀ Γ M Hn H σ, P.ct Γ M → SR X.K B M Γ Hn H σ → De.ct σ H
  rt : ∀ v d M Hn H, P.rt d M → SR X.K B M [] Hn H [] → Is X.K Hn v d → De.rt v H
  ex : ∀ x Γ M Hn H σ cls dd, P.ex x Γ M → SR X.K B M Γ Hn H σ → ExIs X.K Hn cls dd x → AirOk X cls dd σ H
theorem PostOk.air {X : Cx} {B : Bas} {P : Post} {De : Ends} (h : PostOk X B P De) {Γ : Sl} {Hn : Hp} {σ : L2.St} : Air X B Γ Hn σ (fun x M => P.ex x Γ M) := fun x M' Hn' H' cls dd p S _ r => h.ex x Γ M' Hn' H' σ cls dd p S r
def JS (X : Cx) (Γ : Sl) (M : Mem) (st : Stmt) (P : Post) : Prop := ∀ B Hn H σ, SR X.K B M Γ Hn H σ → ∀ De, PostOk X B P De → RunS X st σ H De
def JSs (X : Cx) (Γ : Sl) (M : Mem) (st : List Stmt) (P : Post) : Prop := ∀ B Hn H σ, SR X.K B M Γ Hn H σ → ∀ De, PostOk X B P De → RunSs X st σ H De

/-! ### a new base -/
section
variable {K : PySem.W.Frag} {B : Bas} {M M' : Mem} {Γ Γ' : Sl} {Hn H Hn' H' : Hp} {σ σ' : L2.St}
theorem SR.rebase (S : SR K B M Γ Hn H σ) : SR K ⟨Hn, H, M.map (·.1)⟩ M Γ Hn H σ := ⟨S.rep, Step.refl, fun p hp => .inl (List.mem_map_of_mem hp), List.prefix_refl _, S.sl⟩
theorem SR.back (S : SR K B M Γ Hn H σ) (S' : SR K ⟨Hn, H, M.map (·.1)⟩ M' Γ' Hn' H' σ') : SR K B M' Γ' Hn' H' σ' := by
  have st := S'.step
  have low : ∀ a, a ∈ M.map (·.1) → a ∈ B.A ∨ B.H a = Option.none := fun a ha => by
    obtain ⟨p, hp, rfl⟩ := List.mem_map.mp ha
    exact S.loc p hp
  have old : ∀ a, H a = Option.none → B.H a = Option.none := fun a h => S.old h
  refine ⟨S'.rep, ⟨S.step.nn.trans st.nn, fun a o ha ho => ?_, fun a ha => st.there a (S.step.there a ha), fun a hn n => ?_, fun a xs ea => ?_⟩, fun p hp => ?_, S.pre.trans S'.pre, S'.sl⟩
  · refine st.keep a o (fun hm => ?_) (S.step.keep a o ha ho)
    rcases low a hm with q | q
    · exact ha q
    · rw [q] at ho
      cases ho
  · cases q : Hn a with
    | none => exact S.step.fre (st.new a q n)
    | some o => exact S.step.new a hn (by rw [q]; simp)
  · rcases st.nt a xs ea with h | h
    · exact .inl (S.step.back h)
    · exact S.step.nt a xs h
  · rcases S'.loc p hp with q | q
    · exact low _ q
    · exact .inr (old _ q)
end
/-- as PostOk, what was data kept besides -/
structure PostOk' (X : Cx) (B : Bas) (Hn0 : Hp) (P : Post) (De : Ends) : Prop where
  nx : ∀ Γ M Hn H σ, P.nx Γ M → SR X.K B M Γ Hn H σ → Same Hn0 Hn → De.nx σ H
  bk : ∀ Γ M Hn H σ, P.bk Γ M → SR X.K B M Γ Hn H σ → Same Hn0 Hn → De.bk σ H
  ct : ∀ Γ M Hn H σ, P.ct Γ M → SR X.K B M Γ Hn H σ → Same Hn0 Hn → De.ct σ H
  rt : ∀ v d M Hn H, P.rt d M → SR X.K B M [] Hn H [] → Is X.K Hn v d → De.rt v H
  ex : ∀ x Γ M Hn H σ cls dd, P.ex x Γ M → SR X.K B M Γ Hn H σ → ExIs X.K Hn cls dd x → AirOk X cls dd σ H
theorem JSs.run' {X : Cx} {Γ : Sl} {M : Mem} {st : List Stmt} {P : Post} (h : JSs X Γ M st P) {B : Bas} {Hn H : Hp} {σ : L2.St} (S : SR X.K B M Γ Hn H σ) {De : Ends} (ok : PostOk' X B Hn P De) : RunSs X st σ H De :=
  h ⟨Hn, H, M.map (·.1)⟩ Hn H σ S.rebase De ⟨fun Γ M Hn H σ p S' => ok.nx Γ M Hn H σ p (S.back S') S'.step.nn, fun Γ M Hn H σ p S' => ok.bk Γ M Hn H σ p (S.back S') S'.step.nn, fun Γ M Hn H σ p S' => ok.ct Γ M Hn H σ p (S.back S') S'.step.nn,
    fun v d M Hn H p S' r => ok.rt v d M Hn H p (S.back S') r, fun x Γ M Hn H σ cls dd p S' r => ok.ex x Γ M Hn H σ cls dd p (S.back S') r⟩

section
variable {X : Cx} {Γ : Sl} {M : Mem} {P : Post} {a b c e o : Expr} {st : Stmt} {rest body orelse : List Stmt} {pos p pos2 pos' : Pos}
theorem jss_nil (h : P.nx Γ M) : JSs X Γ M [] P := fun B Hn H σ S De ok => run_pss pss_nil (ok.nx Γ M Hn H σ h S)
theorem jss_cons (h : JS X Γ M st { P with nx := fun Γ' M' => JSs X Γ' M' rest P }) : JSs X Γ M (st :: rest) P := fun B Hn H σ S De ok => by
  refine run_pss (pss_cons ps_run pss_run) ?_
  exact h B Hn H σ S _ ⟨fun Γ' M' Hn' H' σ' p S' => p B Hn' H' σ' S' De ok, ok.bk, ok.ct, ok.rt, ok.ex⟩
theorem jss_one (h : JS X Γ M st P) : JSs X Γ M [st] P := fun B Hn H σ S De ok => run_pss (pss_one ps_run) (h B Hn H σ S De ok)
/-- less is known -/
theorem JSs.weak {st : List Stmt} {Γ' : Sl} {M' : Mem} (h : JSs X Γ' M' st P) (w : ∀ B Hn H σ, SR X.K B M Γ Hn H σ → ∃ Hn', SR X.K B M' Γ' Hn' H σ) : JSs X Γ M st P := fun B Hn H σ S De ok => by
  obtain ⟨Hn', S'⟩ := w B Hn H σ S
  exact h B Hn' H σ S' De ok
theorem JSs.imp {st : List Stmt} {P' : Post} (h : JSs X Γ M st P') (h1 : ∀ Γ M, P'.nx Γ M → P.nx Γ M) (h2 : ∀ d M, P'.rt d M → P.rt d M) (h3 : ∀ Γ M, P'.bk Γ M → P.bk Γ M) (h4 : ∀ Γ M, P'.ct Γ M → P.ct Γ M) (h5 : ∀ x Γ M, P'.ex x Γ M → P.ex x Γ M) : JSs X Γ M st P :=
  fun B Hn H σ S De ok => h B Hn H σ S De ⟨fun Γ M Hn H σ p => ok.nx Γ M Hn H σ (h1 Γ M p), fun Γ M Hn H σ p => ok.bk Γ M Hn H σ (h3 Γ M p), fun Γ M Hn H σ p => ok.ct Γ M Hn H σ (h4 Γ M p), fun v d M Hn H p => ok.rt v d M Hn H (h2 d M p), fun x Γ M Hn H σ cls dd p => ok.ex x Γ M Hn H σ cls dd (h5 x Γ M p)⟩
/-- what follows is shown once, from Mid -/
theorem jss_cut (Mid : Sl → Mem → Prop) (h : JS X Γ M st { P with nx := Mid }) (k : ∀ Γ' M', Mid Γ' M' → JSs X Γ' M' rest P) : JSs X Γ M (st :: rest) P := jss_cons fun B Hn H σ S De ok => h B Hn H σ S De ⟨fun Γ M Hn H σ p S => ok.nx Γ M Hn H σ (k Γ M p) S, ok.bk, ok.ct, ok.rt, ok.ex⟩
/-- a list that was filled is data from here on -/
theorem jss_freeze (i k : Nat) {st : List Stmt} {t : Addr} {ds : List D} (hk : M[k]? = some (t, .lst ds)) (hi : Γ[i]? = some (some (.raw (.ref t)))) (hz : ∀ B Hn H σ, SR X.K B M Γ Hn H σ → B.A.length ≤ k) (h : JSs X (Γ.set i (some (.lst ds))) (M.eraseIdx k) st P) : JSs X Γ M st P :=
  h.weak fun B Hn H σ S => by
    obtain ⟨vs, h1, r⟩ := (S.rep.cell _ (List.mem_of_getElem? hk)).2
    have hn : Hn t = none := (S.rep.cell _ (List.mem_of_getElem? hk)).1
    refine ⟨_, (S.toData hk h1 (hz B Hn H σ S)).retype hi (.lst upd_same (r.mono (same_upd hn)))⟩

/-! ### targets -/
def RunG (X : Cx) (tg : Expr) (v : V) (σ : L2.St) (H : Hp) (Q : L2.St → Hp → Prop) : Prop := ∀ pins s u, Inv X pins σ H s → RelV v u → wpAny (model X.prog X.w) X.A (assign tg X.env u) (fun _ s' => ∃ σ' H', Inv X pins σ' H' s' ∧ Q σ' H') X.xe s
theorem pg_run {X : Cx} {tg : Expr} : PG X tg (RunG X tg) := ⟨fun pins s σ H v u Q I r h => h pins s u I r⟩
/-- tg = what stands for d -/
def JG (X : Cx) (Γ : Sl) (M : Mem) (tg : Expr) (d : D) (Φ : Sl → Mem → Prop) : Prop := ∀ B Hn H σ v, SR X.K B M Γ Hn H σ → Is X.K Hn v d → ∀ Q : L2.St → Hp → Prop, (∀ Γ' M' Hn' H' σ', Φ Γ' M' → SR X.K B M' Γ' Hn' H' σ' → Same Hn Hn' → Q σ' H') → RunG X tg v σ H Q
def RunGs (X : Cx) (ts : List Expr) (vs : List V) (σ : L2.St) (H : Hp) (Q : L2.St → Hp → Prop) : Prop := ∀ pins s us, Inv X pins σ H s → Vals vs us → wpAny (model X.prog X.w) X.A (assignInOrder ((assignEach ts X.env).map (·.2)) us) (fun _ s' => ∃ σ' H', Inv X pins σ' H' s' ∧ Q σ' H') X.xe s
theorem pgs_run {X : Cx} {ts : List Expr} : PGs X ts (RunGs X ts) := ⟨fun pins s σ H vs us Q I r h => h pins s us I r⟩
def JGs (X : Cx) (Γ : Sl) (M : Mem) (ts : List Expr) (ds : List D) (Φ : Sl → Mem → Prop) : Prop := ∀ B Hn H σ vs, SR X.K B M Γ Hn H σ → IsA X.K Hn vs ds → ∀ Q : L2.St → Hp → Prop, (∀ Γ' M' Hn' H' σ', Φ Γ' M' → SR X.K B M' Γ' Hn' H' σ' → Same Hn Hn' → Q σ' H') → RunGs X ts vs σ H Q
theorem len_of {X : Cx} {pins : List (Addr × Obj)} {σ : L2.St} {H : Hp} {s : Shared} {i : Nat} {x : Str} (I : Inv X pins σ H s) (hi : X.N[i]? = some x) : i < σ.length := by
  rw [I.len]
  exact (List.getElem?_eq_some_iff.mp hi).1
theorem jg_name (i : Nat) {x : Str} {d : D} {Φ : Sl → Mem → Prop} (h : Φ (Γ.set i (some d)) M) (hN : X.N.Nodup) (hi : X.N[i]? = some x := by rfl) (hx : Loc X.env.scope x := by first | exact Or.inl rfl | exact Or.inr rfl)
    (hf : X.fn x = true ∨ X.env.scope.names.lookup x = some .local := by first | exact .inl rfl | exact .inr rfl | assumption) : JG X Γ M (.Name x pos) d Φ := fun B Hn H σ v S r Q q pins s u I ru => by
  exact (pg_name hN hi hx hf).run pins s σ H v u Q I ru (q _ _ Hn H _ h (S.set (len_of I hi) r) (Same.refl _))
theorem jgs_nil {Φ : Sl → Mem → Prop} (h : Φ Γ M) : JGs X Γ M [] [] Φ := fun B Hn H σ vs S r Q q pins s us I ru => by
  cases r
  exact pgs_nil.run pins s σ H [] us Q I ru ⟨rfl, q _ _ _ _ _ h S (Same.refl _)⟩
theorem jgs_cons {ts : List Expr} {d : D} {ds : List D} {Φ : Sl → Mem → Prop} (h : JG X Γ M e d (fun Γ1 M1 => JGs X Γ1 M1 ts ds Φ)) (hs : (assignEach (e :: ts) X.env).map (·.2) = assign e X.env :: (assignEach ts X.env).map (·.2) := by rfl) : JGs X Γ M (e :: ts) (d :: ds) Φ := fun B Hn H σ vs S r Q q pins s us I ru => by
  cases r with
  | @cons v _ vs _ r1 r2 =>
    refine (pgs_cons pg_run pgs_run hs).run pins s σ H (v :: vs) us Q I ru ⟨v, vs, rfl, ?_⟩
    refine h B Hn H σ v S r1 _ fun Γ1 M1 Hn1 H1 σ1 p1 S1 e1 => ?_
    exact p1 B Hn1 H1 σ1 vs S1 (r2.mono e1) Q fun Γ' M' Hn' H' σ' p2 S2 e2 => q Γ' M' Hn' H' σ' p2 S2 (e1.trans e2)
theorem jg_tup {es : List Expr} {k n : Nat} {ds : List D} {Φ : Sl → Mem → Prop} (h : JGs X Γ M es ds Φ) (hl : ds.length = n) (hc : X.calm = true := by rfl) (hn : (assignEach es X.env).length = n := by rfl) (hst : (assignEach es X.env).findIdx? (·.1) = none := by rfl) : JG X Γ M (.Tuple es k pos) (.tup ds) Φ := fun B Hn H σ v S r Q q pins s u I ru => by
  cases r with
  | @tup t ws _ ht r =>
    refine (pg_tup hc pgs_run hn hst).run pins s σ H _ u Q I ru ⟨t, ws, rfl, same_t S.rep.sub ht, by rw [r.length, hl], ?_⟩
    exact h B Hn H σ ws S r Q q

/-! ### statements -/
theorem js_asg {tg : Expr} (h : JE X Γ M e (fun d M1 => JG X Γ M1 tg d P.nx) (fun x M1 => P.ex x Γ M1)) (hs : swapsWithSole [tg] e pos.line X.env = pure false := by rfl) (hw : swappedStores [tg] e X.env = pure none := by rfl)
    (h1 : (assignEach [tg] X.env).map (·.2) = [assign tg X.env] := by rfl) : JS X Γ M (.Assign [tg] e pos) P := fun B Hn H σ S De ok => by
  refine run_ps (ps_asg pe_run pg_run hs hw h1) ?_
  refine h B Hn H σ S ok.air _ fun v d M1 Hn1 H1 p S1 e1 r1 => ?_
  exact p B Hn1 H1 σ v S1 r1 _ fun Γ' M' Hn' H' σ' p2 S2 e2 => ok.nx Γ' M' Hn' H' σ' p2 S2
/-- x = e -/
theorem js_set (i : Nat) {x : Str} (h : JE X Γ M e (fun d M1 => P.nx (Γ.set i (some d)) M1) (fun x M1 => P.ex x Γ M1)) (hN : X.N.Nodup) (hi : X.N[i]? = some x := by rfl) (hx : Loc X.env.scope x := by first | exact Or.inl rfl | exact Or.inr rfl)
    (hs : swapsWith e (some (.Name x pos')) pos.line X.env = pure false := by rfl) (hf : X.fn x = true ∨ X.env.scope.names.lookup x = some .local := by first | exact .inl rfl | exact .inr rfl | assumption) : JS X Γ M (.Assign [.Name x pos'] e pos) P := fun B Hn H σ S De ok pins s I => by
  refine (ps_set hN hi hx pe_run hs hf).run pins s σ H De I ?_
  exact h B Hn H σ S ok.air _ fun v d M1 Hn1 H1 p S1 e1 r1 => ok.nx _ _ _ _ _ p (S1.set (len_of I hi) r1)
theorem js_expr (h : JE X Γ M e (fun d M1 => P.nx Γ M1) (fun x M1 => P.ex x Γ M1)) (hs : swapsWith e none pos.line X.env = pure false := by rfl) : JS X Γ M (.Expr e pos) P := fun B Hn H σ S De ok => by
  refine run_ps (ps_expr pe_run hs) ?_
  exact h B Hn H σ S ok.air _ fun v d M1 Hn1 H1 p S1 e1 r1 => ok.nx _ _ _ _ _ p S1
theorem js_ret (h : JE X Γ M e (fun d M1 => P.rt d M1) (fun x M1 => P.ex x Γ M1)) : JS X Γ M (.Return (some e) pos) P := fun B Hn H σ S De ok => by
  refine run_ps (ps_ret pe_run) ?_
  exact h B Hn H σ S ok.air _ fun v d M1 Hn1 H1 p S1 e1 r1 => ok.rt v d M1 Hn1 H1 p S1.none r1
theorem js_retN (h : P.rt .non M) : JS X Γ M (.Return none pos) P := fun B Hn H σ S De ok => run_ps ps_retN (ok.rt .non .non M Hn H h S.none .non)
theorem js_pass (h : P.nx Γ M) : JS X Γ M (.Pass pos) P := fun B Hn H σ S De ok => run_ps ps_pass (ok.nx _ _ _ _ _ h S)
theorem js_break (h : P.bk Γ M) : JS X Γ M (.Break pos) P := fun B Hn H σ S De ok => run_ps ps_break (ok.bk _ _ _ _ _ h S)
theorem js_cont (h : P.ct Γ M) : JS X Γ M (.Continue pos) P := fun B Hn H σ S De ok => run_ps ps_continue (ok.ct _ _ _ _ _ h S)
theorem js_if (h : JT X Γ M c (fun k M1 => if k = true then JSs X Γ M1 body P else JSs X Γ M1 orelse P) (fun x M1 => P.ex x Γ M1)) : JS X Γ M (.If c body orelse pos) P := fun B Hn H σ S De ok => by
  refine run_ps (ps_if pt_run pss_run pss_run) ?_
  refine h B Hn H σ S ok.air _ fun k M1 Hn1 H1 p S1 e1 => ?_
  cases k with
  | true =>
    rw [if_pos rfl] at p
    rw [if_pos rfl]
    exact p B Hn1 H1 σ S1 De ok
  | false =>
    rw [if_neg Bool.false_ne_true] at p
    rw [if_neg Bool.false_ne_true]
    exact p B Hn1 H1 σ S1 De ok
theorem js_aug (i : Nat) {x : Str} {op : Operator} {n m : Int} (hn : Γ[i]? = some (some (.int n))) (f : Int → Int → Int) (ho : PIp X op (ipI f)) (h : JE X Γ M e (fun d M1 => ∃ m, d = .int m ∧ P.nx (Γ.set i (some (.int (f n m)))) M1) (fun x M1 => P.ex x Γ M1)) (hN : X.N.Nodup) (hi : X.N[i]? = some x := by rfl)
    (hx : Loc X.env.scope x := by first | exact Or.inl rfl | exact Or.inr rfl) (hf : X.fn x = true ∨ X.env.scope.names.lookup x = some .local := by first | exact .inl rfl | exact .inr rfl | assumption) : JS X Γ M (.AugAssign (.Name x pos') op e pos) P := fun B Hn H σ S De ok pins s I => by
  obtain ⟨v, hv, rv⟩ := S.sl i _ hn
  cases rv
  refine (ps_aug hN hi hx pe_run ho hf).run pins s σ H De I ⟨_, hv, ?_⟩
  refine h B Hn H σ S ok.air _ fun v d M1 Hn1 H1 p S1 e1 r1 => ?_
  obtain ⟨m, rfl, p⟩ := p
  cases r1
  exact ⟨n, m, rfl, rfl, ok.nx _ _ _ _ _ p (S1.set (len_of I hi) (.int _))⟩
/-- a, b = e1, e2 -/
theorem js_par (i j : Nat) {x y : Str} {px py pt : Pos} {kt k2 pt2} (h : JA X Γ M [a, b] (fun ds M1 => ∃ d1 d2, ds = [d1, d2] ∧ P.nx ((Γ.set i (some d1)).set j (some d2)) M1) (fun x M1 => P.ex x Γ M1)) (hN : X.N.Nodup) (hc : X.calm = true := by rfl) (hi : X.N[i]? = some x := by rfl) (hj : X.N[j]? = some y := by rfl) (hij : i ≠ j := by decide)
    (hx : X.env.scope.names.lookup x = some .local := by rfl) (hy : X.env.scope.names.lookup y = some .local := by rfl) (hw : swappedStores [.Tuple [.Name x px, .Name y py] kt pt] (.Tuple [a, b] k2 pt2) X.env = pure (some [x, y]) := by rfl)
    (hs : swapsWithSole [.Tuple [.Name x px, .Name y py] kt pt] (.Tuple [a, b] k2 pt2) pos.line X.env = pure false := by rfl) : JS X Γ M (.Assign [.Tuple [.Name x px, .Name y py] kt pt] (.Tuple [a, b] k2 pt2) pos) P := fun B Hn H σ S De ok pins s I => by
  refine (ps_par hc hN hi hj hij hx hy pa_run hw hs).run pins s σ H De I ?_
  refine h B Hn H σ S ok.air _ fun vs ds M1 Hn1 H1 p S1 e1 r1 => ?_
  obtain ⟨d1, d2, rfl, p⟩ := p
  obtain ⟨v1, v2, rfl, r1, r2⟩ := r1.two
  refine ⟨v1, v2, rfl, ok.nx _ _ _ _ _ p ((S1.set (len_of I hi) r1).set ?_ r2)⟩
  rw [List.length_set]
  exact len_of I hj
/-- d[k] = e, d a cell -/
theorem js_dputK (k : Nat) {i : Expr} (hu : X.A.units + 1 < cLine) (h : JE X Γ M e (fun d M1 => JE X Γ M1 o (fun x M2 => JE X Γ M2 i (fun y M3 => ∃ t kvs j, x = .raw (.ref t) ∧ M3[k]? = some (t, .dK kvs) ∧ y = keyD j ∧ kvs.length < 1000000 ∧ P.nx Γ (M3.set k (t, .dK (ptD kvs y d)))) (fun x M1 => P.ex x Γ M1)) (fun x M1 => P.ex x Γ M1)) (fun x M1 => P.ex x Γ M1))
    (hs : swapsWith e (some (.Subscript o i pos')) pos.line X.env = pure false := by rfl) : JS X Γ M (.Assign [.Subscript o i pos'] e pos) P := fun B Hn H σ S De ok => by
  refine run_ps (ps_dput hu pe_run pe_run pe_run hs) ?_
  refine h B Hn H σ S ok.air _ fun v d M1 Hn1 H1 p1 S1 e1 r1 => ?_
  refine p1 B Hn1 H1 σ S1 ok.air _ fun w x M2 Hn2 H2 p2 S2 e2 r2 => ?_
  refine p2 B Hn2 H2 σ S2 ok.air _ fun u y M3 Hn3 H3 p3 S3 e3 r3 => ?_
  obtain ⟨t, kvs, j, rfl, hk, rfl, hl, p3⟩ := p3
  cases r2
  obtain ⟨ks, h1, rk⟩ := (S3.rep.cell _ (List.mem_of_getElem? hk)).2
  have eu := kV_of r3
  subst eu
  refine ⟨t, _, rfl, DPut.k h1 (by rw [rk.length, sizeLine_eq]; omega), ?_⟩
  exact ok.nx _ _ _ _ _ p3 (S3.put hk ⟨_, upd_same, rk.put ((r1.mono e2).mono e3) j⟩)
theorem js_dputT (k : Nat) {i : Expr} (hu : X.A.units + 1 < cLine) (h : JE X Γ M e (fun d M1 => JE X Γ M1 o (fun x M2 => JE X Γ M2 i (fun y M3 => ∃ t kvs j, x = .raw (.ref t) ∧ M3[k]? = some (t, .dT kvs) ∧ y = tkD j ∧ j ≠ [] ∧ kvs.length < 1000000 ∧ P.nx Γ (M3.set k (t, .dT (ptD kvs y d)))) (fun x M1 => P.ex x Γ M1)) (fun x M1 => P.ex x Γ M1)) (fun x M1 => P.ex x Γ M1))
    (hs : swapsWith e (some (.Subscript o i pos')) pos.line X.env = pure false := by rfl) : JS X Γ M (.Assign [.Subscript o i pos'] e pos) P := fun B Hn H σ S De ok => by
  refine run_ps (ps_dput hu pe_run pe_run pe_run hs) ?_
  refine h B Hn H σ S ok.air _ fun v d M1 Hn1 H1 p1 S1 e1 r1 => ?_
  refine p1 B Hn1 H1 σ S1 ok.air _ fun w x M2 Hn2 H2 p2 S2 e2 r2 => ?_
  refine p2 B Hn2 H2 σ S2 ok.air _ fun u y M3 Hn3 H3 p3 S3 e3 r3 => ?_
  obtain ⟨t, kvs, j, rfl, hk, rfl, hj, hl, p3⟩ := p3
  cases r2
  obtain ⟨ks, h1, rk⟩ := (S3.rep.cell _ (List.mem_of_getElem? hk)).2
  obtain ⟨tb, rfl, htb⟩ := tk_of S3.rep.sub hj r3
  refine ⟨t, _, rfl, DPut.t h1 htb (by rw [rk.length, sizeLine_eq]; omega), ?_⟩
  exact ok.nx _ _ _ _ _ p3 (S3.put hk ⟨_, upd_same, rk.put ((r1.mono e2).mono e3) j⟩)
/-- self.f = e, self a cell -/
theorem js_fld (k : Nat) {f : Str} (h : JE X Γ M e (fun d M1 => JE X Γ M1 o (fun x M2 => ∃ t C fs, x = .raw (.ref t) ∧ M2[k]? = some (t, .ins C fs) ∧ Cls X.K C ∧ NoAttr X.K C f ∧ fs.length < 900 ∧ P.nx Γ (M2.set k (t, .ins C (putD f d fs)))) (fun x M1 => P.ex x Γ M1)) (fun x M1 => P.ex x Γ M1))
    (hs : swapsWith e (some (.Attribute o f pos')) pos.line X.env = pure false := by rfl) : JS X Γ M (.Assign [.Attribute o f pos'] e pos) P := fun B Hn H σ S De ok => by
  refine run_ps (ps_fld pe_run pe_run hs) ?_
  refine h B Hn H σ S ok.air _ fun v d M1 Hn1 H1 p1 S1 e1 r1 => ?_
  refine p1 B Hn1 H1 σ S1 ok.air _ fun w x M2 Hn2 H2 p2 S2 e2 r2 => ?_
  obtain ⟨t, C, fs, rfl, hk, c, n, hl, p2⟩ := p2
  cases r2
  obtain ⟨dx, gs, h1, rf⟩ := (S2.rep.cell _ (List.mem_of_getElem? hk)).2
  refine ⟨t, C, dx, gs, rfl, h1, c, n, by rw [rf.length]; omega, ?_⟩
  exact ok.nx _ _ _ _ _ p2 (S2.put hk ⟨dx, _, upd_same, rf.put (r1.mono e2)⟩)
theorem js_while (hp : PassesOwn (model X.prog X.w) X.A X.env X.xe) (W : Nat → Sl → Mem → Prop) (m0 : Nat) (h0 : W m0 Γ M)
    (h : ∀ m Γ1 M1, W m Γ1 M1 → JT X Γ1 M1 c (fun k M2 => if k = true then JSs X Γ1 M2 body { P with nx := fun Γ3 M3 => ∃ m', m' < m ∧ W m' Γ3 M3, ct := fun Γ3 M3 => ∃ m', m' < m ∧ W m' Γ3 M3, bk := P.nx } else P.nx Γ1 M2) (fun x M1 => P.ex x Γ1 M1)) : JS X Γ M (.While c body [] pos) P := fun B Hn H σ S De ok => by
  refine run_ps (ps_while hp pt_run pss_run) ?_
  refine ⟨fun m σ' H' => ∃ Γ1 M1 Hn1, W m Γ1 M1 ∧ SR X.K B M1 Γ1 Hn1 H' σ', ⟨m0, Γ, M, Hn, h0, S⟩, fun m σ' H' w => ?_⟩
  obtain ⟨Γ1, M1, Hn1, w1, S1⟩ := w
  refine h m Γ1 M1 w1 B Hn1 H' σ' S1 ok.air _ fun k M2 Hn2 H2 p S2 e2 => ?_
  cases k with
  | true =>
    rw [if_pos rfl] at p
    rw [if_pos rfl]
    refine ⟨fun σ3 H3 => ∃ m', m' < m ∧ ∃ Γ3 M3 Hn3, W m' Γ3 M3 ∧ SR X.K B M3 Γ3 Hn3 H3 σ3, fun σ3 H3 n => n, ?_⟩
    exact p B Hn2 H2 σ' S2 _ ⟨fun Γ3 M3 Hn3 H3 σ3 ⟨m', hm, w⟩ S3 => ⟨m', hm, Γ3, M3, Hn3, w, S3⟩, ok.nx, fun Γ3 M3 Hn3 H3 σ3 ⟨m', hm, w⟩ S3 => ⟨m', hm, Γ3, M3, Hn3, w, S3⟩, ok.rt, ok.ex⟩
  | false =>
    rw [if_neg Bool.false_ne_true] at p
    rw [if_neg Bool.false_ne_true]
    exact ok.nx _ _ _ _ _ p S2

/-! ### the rule for a def -/
theorem fn_d {Pg : Program} {w : World} {K : PySem.W.Frag} {mg : Str → Option Value} {base : Heap} {x qual : Str} {st : Stmt} {f : Addr} {fd : FuncData} {N ps : List Str} {k : Nat} {spec : Spec} (F : Fun K x qual st f fd) (Sc : FnScope N ps (defScope st))
    (len : ∀ ds M Φ Ψ, spec ds M Φ Ψ → ds.length = ps.length)
    (body : ∀ (cdv : Value) (A : Around) (outer : List Env) (s : Shared) (H : Hp) (E : XK), Room k (A.deeper (envOfC qual (defScope st) s.heap.objs.size f cdv)) → ∀ ds M Φ Ψ, spec ds M Φ Ψ →
      JSs (cxOf (L2.CX Pg w) Pg w K mg base N qual (defScope st) f cdv A outer s H E) (ds.map some ++ List.replicate (N.length - ds.length) none) M (defBody st)
        { nx := fun _ M' => Φ .non (M'.take M.length), rt := fun d M' => Φ d (M'.take M.length), ex := fun x _ M' => Ψ x (M'.take M.length) }) : FnOk Pg w K mg base (L2.CX Pg w) (k + 1) f fd ps (spD K spec) := by
  refine F.okX Sc (fun vs H Q E h => ?_) (fun cdv A outer s H vs Q E hr h => ?_)
  · obtain ⟨ds, M, Hn, Φ, Ψ, r, _, hsp, _⟩ := h
    rw [r.length]
    exact len _ _ _ _ hsp
  · obtain ⟨ds, M, Hn, Φ, Ψ, r, R, hsp, q, qx⟩ := h
    refine ⟨_, pss_run, ?_⟩
    have pre : M.map (·.1) <+: M.map (·.1) := List.prefix_refl _
    have S : SR K ⟨Hn, H, M.map (·.1)⟩ M (ds.map some ++ List.replicate (N.length - ds.length) none) Hn H (L2.start N vs) := by
      refine ⟨R, Step.refl, fun p hp => .inl (List.mem_map_of_mem hp), pre, fun i d hi => ?_⟩
      unfold L2.start
      by_cases hl : i < ds.length
      · rw [List.getElem?_append_left (by simpa using hl), List.getElem?_map] at hi
        cases hd : ds[i]? with
        | none => rw [hd] at hi; cases hi
        | some d' =>
          rw [hd] at hi
          cases hi
          obtain ⟨v, hv, rv⟩ := r.get hd
          exact ⟨v, by rw [List.getElem?_append_left (by rw [List.length_map, r.length]; exact hl), List.getElem?_map, hv]; rfl, rv⟩
      · rw [List.getElem?_append_right (by simpa using hl), List.getElem?_replicate] at hi
        split at hi <;> cases hi
    -- what a state behind gives the caller
    have back : ∀ {M' : Mem} {Γ' : Sl} {Hn' H' : Hp} {σ' : L2.St}, SR K ⟨Hn, H, M.map (·.1)⟩ M' Γ' Hn' H' σ' → Rep K (M'.take M.length) Hn' H' ∧ (M'.take M.length).map (·.1) = M.map (·.1) := by
      intro M' Γ' Hn' H' σ' S'
      refine ⟨S'.rep.part (fun p hp => List.mem_of_mem_take hp) ?_, ?_⟩
      · rw [List.map_take]
        exact S'.rep.nd.sublist (List.take_sublist _ _)
      · obtain ⟨z, hz⟩ := S'.pre
        rw [List.map_take, ← hz]
        have hz' : M.map (·.1) ++ z = M'.map (·.1) := hz
        rw [List.take_append_of_le_length (by simp), List.take_of_length_le (by simp)]
    refine body cdv A outer s H E hr ds M Φ Ψ hsp (⟨Hn, H, M.map fun p : Addr × Cell => p.1⟩ : Bas) Hn H (L2.start N vs) S _ ⟨fun Γ' M' Hn' H' σ' p S' => ?_, fun Γ' M' Hn' H' σ' p => p.elim, fun Γ' M' Hn' H' σ' p => p.elim, fun v d M' Hn' H' p S' rv => ?_, fun x Γ' M' Hn' H' σ' cls dd p S' ri => ?_⟩
    · obtain ⟨b1, b2⟩ := back S'
      exact q .non .non _ Hn' H' p b1 S'.step b2 .non
    · obtain ⟨b1, b2⟩ := back S'
      exact q v d _ Hn' H' p b1 S'.step b2 rv
    · obtain ⟨b1, b2⟩ := back S'
      exact air_of (W := fun cls d _ H => E cls d H) (takes_of rfl rfl rfl rfl) (qx x _ Hn' H' cls dd p b1 S'.step b2 ri)
end
end DL
end

section
set_option Elab.async false
set_option linter.all false
set_option maxRecDepth 100000
set_option maxHeartbeats 4000000
/-! What is walked: loops, comprehensions. -/
namespace DL
open PySem PySem.Spec PyProof.Rows L2

def RunI (X : Cx) (tg iter : Expr) (σ : L2.St) (H : Hp) (R : It → Hp → Prop) : Prop := ∀ pins s, Inv X pins σ H s → wpAny (model X.prog X.w) X.A (eval iter X.env) (fun v s1 => wpAny (model X.prog X.w) X.A (pyIter v) (PIE X pins σ tg R) X.xe s1) X.xe s
theorem pi_run {X : Cx} {tg iter : Expr} : PI X tg iter (RunI X tg iter) := ⟨fun pins s σ H R I h => h pins s I⟩
/-- J yields what stands for xs, while what was data at Hn0 is -/
structure Good (K : PySem.W.Frag) (Hn0 : Hp) (J : It) (xs : List D) : Prop where
  go : ∀ i Hn H, Same Hn0 Hn → Same Hn H → i < xs.length → J.go i H
  stop : ∀ Hn H, Same Hn0 Hn → Same Hn H → J.stop xs.length H
  yld : ∀ i Hn H v H', Same Hn0 Hn → Same Hn H → J.yld i H v H' → i < xs.length → ∃ d, xs[i]? = some d ∧ ((H' = H ∧ Is K Hn v d) ∨ ∃ p o, H p = none ∧ H' = upd H p o ∧ Is K (upd Hn p o) v d)
def JI (X : Cx) (Γ : Sl) (M : Mem) (tg iter : Expr) (Φ : List D → Mem → Prop) (Ψ : XP) : Prop := ∀ B Hn H σ, SR X.K B M Γ Hn H σ → Air X B Γ Hn σ Ψ → ∀ R : It → Hp → Prop,
  (∀ J xs M' Hn' H', Φ xs M' → SR X.K B M' Γ Hn' H' σ → Same Hn Hn' → Good X.K Hn' J xs → R J H') → RunI X tg iter σ H R
section
variable {X : Cx} {Γ : Sl} {M : Mem} {Ψ : XP} {Φ : List D → Mem → Prop} {tg e a b : Expr} {pos p : Pos}
theorem ji_list (h : JE X Γ M e (fun d M1 => ∃ xs, d = .lst xs ∧ Φ xs M1) Ψ) : JI X Γ M tg e Φ Ψ := fun B Hn H σ S A R q pins s I => by
  refine (pi_list pe_run).run pins s σ H R I ?_
  refine h B Hn H σ S A _ fun v d M1 Hn1 H1 p S1 e1 r1 => ?_
  obtain ⟨xs, rfl, p⟩ := p
  cases r1 with
  | @lst t ws _ h1 r1 =>
    refine ⟨t, rfl, ⟨ws, SqL.of (S1.rep.sub _ _ h1)⟩, q _ xs _ _ _ p S1 e1 ⟨fun i Hn H e f hi => ?_, fun Hn H e f => ?_, fun i Hn H v H' e f hy hi => ?_⟩⟩
    · obtain ⟨w, hw, _⟩ := r1.get (List.getElem?_eq_getElem hi)
      exact ⟨ws, w, SqL.of (f _ _ (e _ _ h1)), hw⟩
    · exact ⟨ws, SqL.of (f _ _ (e _ _ h1)), by rw [r1.length]; exact Nat.le_refl _⟩
    · obtain ⟨rfl, hy⟩ := hy
      have hw := hy ws (SqL.of (f _ _ (e _ _ h1)))
      obtain ⟨d, hd, rd⟩ := r1.get' hw
      exact ⟨d, hd, .inl ⟨rfl, rd.mono e⟩⟩
theorem ji_tup (h : JE X Γ M e (fun d M1 => ∃ xs, d = .tup xs ∧ Φ xs M1) Ψ) : JI X Γ M tg e Φ Ψ := fun B Hn H σ S A R q pins s I => by
  refine (pi_tup pe_run).run pins s σ H R I ?_
  refine h B Hn H σ S A _ fun v d M1 Hn1 H1 p S1 e1 r1 => ?_
  obtain ⟨xs, rfl, p⟩ := p
  cases r1 with
  | @tup t ws _ h1 r1 =>
    refine ⟨t, rfl, ⟨ws, same_t S1.rep.sub h1⟩, q _ xs _ _ _ p S1 e1 ⟨fun i Hn H e f hi => ?_, fun Hn H e f => ?_, fun i Hn H v H' e f hy hi => ?_⟩⟩
    · obtain ⟨w, hw, _⟩ := r1.get (List.getElem?_eq_getElem hi)
      exact ⟨ws, w, same_t (e.trans f) h1, hw⟩
    · exact ⟨ws, same_t (e.trans f) h1, by rw [r1.length]; exact Nat.le_refl _⟩
    · obtain ⟨rfl, hy⟩ := hy
      have hw := hy ws (same_t (e.trans f) h1)
      obtain ⟨d, hd, rd⟩ := r1.get' hw
      exact ⟨d, hd, .inl ⟨rfl, rd.mono e⟩⟩
/-- 0, 1, .. as data -/
def rngD (lo : Int) (n : Nat) : List D := (List.range n).map fun i => .int (lo + (i : Nat))
theorem rngD_length (lo : Int) (n : Nat) : (rngD lo n).length = n := by simp [rngD]
theorem rngD_get {lo : Int} {n i : Nat} (h : i < n) : (rngD lo n)[i]? = some (.int (lo + (i : Nat))) := by
  unfold rngD
  rw [List.getElem?_map, List.getElem?_range h]
  rfl
theorem good_rng {K : PySem.W.Frag} {Hn : Hp} (lo : Int) (n : Nat) : Good K Hn (Itr lo n) (rngD lo n) := by
  refine ⟨fun i _ _ _ _ hi => by rw [rngD_length] at hi; exact hi, fun _ _ _ _ => by rw [rngD_length]; exact Nat.le_refl _, fun i Hn H v H' _ _ hy hi => ?_⟩
  rw [rngD_length] at hi
  obtain ⟨rfl, rfl⟩ := hy
  exact ⟨_, rngD_get hi, .inl ⟨rfl, .int _⟩⟩
theorem ji_range1 (hm : X.mg "range" = none) (h : JE X Γ M a (fun d M1 => ∃ n : Int, d = .int n ∧ -1000000 ≤ n ∧ n ≤ 1000000 ∧ Φ (rngD 0 n.toNat) M1) Ψ) (hg : Gl X "range" := by rfl) (hs : starEach [a] X.env = [(false, eval a X.env)] := by rfl) : JI X Γ M tg (.Call (.Name "range" p) [a] [] pos) Φ Ψ := fun B Hn H σ S A R q pins s I => by
  refine (pi_range1 hg hm (pa_cons pe_run pa_nil hs) hs).run pins s σ H R I ?_
  refine h B Hn H σ S A _ fun v d M1 Hn1 H1 p S1 e1 r1 => ?_
  obtain ⟨n, rfl, h1, h2, p⟩ := p
  cases r1
  exact ⟨n, rfl, by omega, by omega, q _ _ _ _ _ p S1 e1 (good_rng 0 n.toNat)⟩
theorem ji_str (h : JE X Γ M e (fun d M1 => ∃ x, d = .str x ∧ Φ (x.cps.toList.map fun c => .str ⟨#[c]⟩) M1) Ψ) : JI X Γ M tg e Φ Ψ := fun B Hn H σ S A R q pins s I => by
  refine (pi_str pe_run).run pins s σ H R I ?_
  refine h B Hn H σ S A _ fun v d M1 Hn1 H1 p S1 e1 r1 => ?_
  obtain ⟨x, rfl, p⟩ := p
  cases r1
  refine ⟨x, rfl, q _ _ _ _ _ p S1 e1 ⟨fun i _ _ _ _ hi => by rw [List.length_map, Array.length_toList] at hi; exact hi, fun _ _ _ _ => by rw [List.length_map, Array.length_toList]; exact Nat.le_refl _, fun i Hn H v H' _ _ hy hi => ?_⟩⟩
  obtain ⟨rfl, c, hc, rfl⟩ := hy
  refine ⟨_, ?_, .inl ⟨rfl, .str _⟩⟩
  rw [List.getElem?_map, ← Array.getElem?_toList] at *
  rw [hc]
  rfl

/-! ### for -/
theorem js_for {body : List Stmt} {iter : Expr} {P : Post} (hp : PassesOwn (model X.prog X.w) X.A X.env X.xe) (h : JI X Γ M tg iter (fun xs M1 => ∃ Iv : Nat → Sl → Mem → Prop, Iv 0 Γ M1 ∧
      (∀ i x Γ2 M2, xs[i]? = some x → Iv i Γ2 M2 → JG X Γ2 M2 tg x (fun Γ3 M3 => JSs X Γ3 M3 body { P with nx := Iv (i + 1), ct := Iv (i + 1), bk := P.nx })) ∧ (∀ Γ2 M2, Iv xs.length Γ2 M2 → P.nx Γ2 M2)) (fun x M1 => P.ex x Γ M1)) (hc : X.calm = true := by rfl)
    (hs : ∀ x, foldedSetIterable iter X.env x = pure x := by intro _; rfl) : JS X Γ M (.For tg iter body [] pos) P := fun B Hn H σ S De ok => by
  refine run_ps (ps_for hp hc pi_run pg_run pss_run hs) ?_
  refine h B Hn H σ S ok.air _ fun J xs M1 Hn1 H1 p S1 e1 G => ?_
  obtain ⟨Iv, i0, turn, fin⟩ := p
  refine ⟨fun i m σ' H' => m = xs.length - i ∧ i ≤ xs.length ∧ ∃ Γ2 M2 Hn2, Iv i Γ2 M2 ∧ SR X.K B M2 Γ2 Hn2 H' σ' ∧ Same Hn1 Hn2, ⟨xs.length, by simp, Nat.zero_le _, Γ, M1, Hn1, i0, S1, Same.refl _⟩, ?_⟩
  rintro i m σ' H' ⟨rfl, hi, Γ2, M2, Hn2, iv, S2, e2⟩
  by_cases hlt : i < xs.length
  · refine .inr ⟨G.go i Hn2 H' e2 S2.rep.sub hlt, fun σ3 H3 => ∃ Γ3 M3 Hn3, Iv (i + 1) Γ3 M3 ∧ SR X.K B M3 Γ3 Hn3 H3 σ3 ∧ Same Hn1 Hn3, fun σ3 H3 ⟨Γ3, M3, Hn3, iv, S3, e3⟩ => ⟨xs.length - (i + 1), by omega, rfl, hlt, Γ3, M3, Hn3, iv, S3, e3⟩, fun v H3 hy => ?_⟩
    obtain ⟨d, hd, hv⟩ := G.yld i Hn2 H' v H3 e2 S2.rep.sub hy hlt
    have tl := turn i d Γ2 M2 hd iv
    have run : ∀ Hn3, SR X.K B M2 Γ2 Hn3 H3 σ' → Same Hn1 Hn3 → Is X.K Hn3 v d → RunG X tg v σ' H3 fun σ2 H2 => RunSs X body σ2 H2 { De with nx := fun σ3 H3 => ∃ Γ3 M3 Hn3, Iv (i + 1) Γ3 M3 ∧ SR X.K B M3 Γ3 Hn3 H3 σ3 ∧ Same Hn1 Hn3, ct := fun σ3 H3 => ∃ Γ3 M3 Hn3, Iv (i + 1) Γ3 M3 ∧ SR X.K B M3 Γ3 Hn3 H3 σ3 ∧ Same Hn1 Hn3, bk := De.nx } := fun Hn3 S3 e3 rv => by
      refine tl B Hn3 H3 σ' v S3 rv _ fun Γ4 M4 Hn4 H4 σ4 p4 S4 e4 => ?_
      exact p4.run' S4 ⟨fun Γ5 M5 Hn5 H5 σ5 iv5 S5 e5 => ⟨Γ5, M5, Hn5, iv5, S5, (e3.trans e4).trans e5⟩, fun Γ5 M5 Hn5 H5 σ5 p5 S5 _ => ok.nx _ _ _ _ _ p5 S5, fun Γ5 M5 Hn5 H5 σ5 iv5 S5 e5 => ⟨Γ5, M5, Hn5, iv5, S5, (e3.trans e4).trans e5⟩, ok.rt, ok.ex⟩
    rcases hv with ⟨rfl, rv⟩ | ⟨t, o, ht, rfl, rv⟩
    · exact run Hn2 S2 e2 rv
    · exact run _ (S2.alloc ht) (e2.trans (same_upd (S2.rep.nn ht))) rv
  · have e : i = xs.length := by omega
    subst e
    exact .inl ⟨G.stop Hn2 H' e2 S2.rep.sub, ok.nx _ _ _ _ _ (fin Γ2 M2 iv) S2⟩
end
end DL
end

section
set_option Elab.async false
set_option linter.all false
set_option maxRecDepth 100000
set_option maxHeartbeats 4000000
/-! List displays with a for in them; zip. -/
namespace DL
open PySem PySem.Spec PyProof.Rows L2

def setS (σ : L2.St) : List Nat → List V → L2.St
  | i :: is, v :: vs => setS (σ.set i (some v)) is vs
  | _, _ => σ
def setD (Γ : Sl) : List Nat → List D → Sl
  | i :: is, v :: vs => setD (Γ.set i (some v)) is vs
  | _, _ => Γ
def wipeD (Γ : Sl) : List Nat → Sl
  | [] => Γ
  | i :: is => (wipeD Γ is).set i none
theorem setS_length : ∀ (is : List Nat) (σ : L2.St) (vs : List V), (setS σ is vs).length = σ.length
  | [], σ, vs => rfl
  | i :: is, σ, [] => rfl
  | i :: is, σ, v :: vs => by
    unfold setS
    rw [setS_length is, List.length_set]
theorem wipe_get {σ : L2.St} {j : Nat} : ∀ {vs : List Nat}, j ∉ vs → (wipe σ vs)[j]? = σ[j]?
  | [], _ => rfl
  | v :: vs, h => by
    unfold wipe
    rw [List.getElem?_set_ne (fun e => h (by rw [e]; exact List.mem_cons_self)), wipe_get fun m => h (List.mem_cons_of_mem _ m)]
theorem wipe_own {σ : L2.St} {j : Nat} : ∀ {vs : List Nat}, j ∈ vs → j < σ.length → (wipe σ vs)[j]? = some none
  | v :: vs, h, hj => by
    unfold wipe
    by_cases e : v = j
    · subst e
      rw [List.getElem?_set_self (by rw [wipe_length]; exact hj)]
    · rw [List.getElem?_set_ne e]
      exact wipe_own (List.mem_of_ne_of_mem (fun q => e q.symm) h) hj
theorem wipe_eq {σ τ : L2.St} {vs : List Nat} (hl : σ.length = τ.length) (h : ∀ j, j ∉ vs → σ[j]? = τ[j]?) : wipe σ vs = wipe τ vs := by
  refine List.ext_getElem? fun j => ?_
  by_cases hj : j ∈ vs
  · by_cases hlt : j < σ.length
    · rw [wipe_own hj hlt, wipe_own hj (by omega)]
    · rw [List.getElem?_eq_none (by rw [wipe_length]; omega), List.getElem?_eq_none (by rw [wipe_length]; omega)]
  · rw [wipe_get hj, wipe_get hj, h j hj]
theorem setS_get {j : Nat} : ∀ {is : List Nat} {σ : L2.St} {vs : List V}, j ∉ is → (setS σ is vs)[j]? = σ[j]?
  | [], σ, vs, _ => rfl
  | i :: is, σ, [], _ => rfl
  | i :: is, σ, v :: vs, h => by
    unfold setS
    rw [setS_get fun m => h (List.mem_cons_of_mem _ m), List.getElem?_set_ne fun e => h (by rw [e]; exact List.mem_cons_self)]
theorem wipe_set {σ : L2.St} {vs is : List Nat} {ws : List V} (h : ∀ i ∈ is, i ∈ vs) : wipe (setS (wipe σ vs) is ws) vs = wipe σ vs := by
  refine wipe_eq (by rw [setS_length, wipe_length]) fun j hj => ?_
  rw [setS_get fun m => hj (h j m), wipe_get hj]
theorem wipeD_length (Γ : Sl) : ∀ vs : List Nat, (wipeD Γ vs).length = Γ.length
  | [] => rfl
  | v :: vs => by
    unfold wipeD
    rw [List.length_set, wipeD_length Γ vs]
theorem wipeD_get {Γ : Sl} {j : Nat} {d : D} : ∀ {vs : List Nat}, (wipeD Γ vs)[j]? = some (some d) → Γ[j]? = some (some d) ∧ j ∉ vs
  | [], h => ⟨h, by simp⟩
  | v :: vs, h => by
    unfold wipeD at h
    by_cases e : v = j
    · subst e
      by_cases hl : v < (wipeD Γ vs).length
      · rw [List.getElem?_set_self hl] at h
        cases h
      · rw [List.getElem?_eq_none (by rw [List.length_set]; omega)] at h
        cases h
    · rw [List.getElem?_set_ne e] at h
      obtain ⟨h1, h2⟩ := wipeD_get h
      exact ⟨h1, fun m => by
        rcases List.mem_cons.mp m with q | q
        · exact e q.symm
        · exact h2 q⟩
theorem SR.wiped {K : PySem.W.Frag} {B : Bas} {M : Mem} {Γ : Sl} {Hn H : Hp} {σ : L2.St} (S : SR K B M Γ Hn H σ) (vs : List Nat) : SR K B M (wipeD Γ vs) Hn H (wipe σ vs) := S.slots fun i d e => by
  obtain ⟨h1, h2⟩ := wipeD_get e
  rw [wipe_get h2]
  exact S.sl i d h1
theorem SR.setAll {K : PySem.W.Frag} {B : Bas} {M : Mem} {Hn H : Hp} : ∀ {is : List Nat} {ws : List V} {ds : List D} {Γ : Sl} {σ : L2.St}, SR K B M Γ Hn H σ → IsA K Hn ws ds → (∀ i ∈ is, i < σ.length) → SR K B M (setD Γ is ds) Hn H (setS σ is ws)
  | [], _, _, _, _, S, _, _ => S
  | i :: is, _, _, _, _, S, .nil, _ => S
  | i :: is, _, _, Γ, σ, S, .cons r1 r2, h => by
    unfold setD setS
    refine SR.setAll (S.set (h i List.mem_cons_self) r1) r2 fun j hj => ?_
    rw [List.length_set]
    exact h j (List.mem_cons_of_mem _ hj)
/-- what no one names changes -/
theorem SR.updH {K : PySem.W.Frag} {B : Bas} {M : Mem} {Γ : Sl} {Hn H : Hp} {σ : L2.St} {a : Addr} {o : HO} (S : SR K B M Γ Hn H σ) (hn : Hn a = Option.none) (hm : a ∉ M.map (·.1)) (hb : B.H a = Option.none) (ho : ∀ xs, o ≠ .tup xs) : SR K B M Γ Hn (upd H a o) σ := by
  refine ⟨⟨fun b u e => ?_, fun p hp => ⟨(S.rep.cell p hp).1, (S.rep.cell p hp).2.mono (Same.refl _) (upd_ne fun e => hm (by rw [← e]; exact List.mem_map_of_mem hp))⟩, S.rep.nd⟩, ⟨S.step.nn, fun b u hb' e => ?_, fun b z => ?_, S.step.new, fun b xs e => ?_⟩, S.loc, S.pre, S.sl⟩
  · rw [upd_ne fun e' => by rw [e', hn] at e; cases e]
    exact S.rep.sub b u e
  · rw [upd_ne fun e' => by rw [e', hb] at e; cases e]
    exact S.step.keep b u hb' e
  · by_cases hq : b = a
    · intro q
      rw [hq, upd_same] at q
      cases q
    · rw [upd_ne hq]
      exact S.step.there b z
  · by_cases hq : b = a
    · rw [hq, upd_same] at e
      exact absurd (Option.some.inj e) (ho xs)
    · rw [upd_ne hq] at e
      exact S.step.nt b xs e
/-- what no one names becomes data -/
theorem SR.known {K : PySem.W.Frag} {B : Bas} {M : Mem} {Γ : Sl} {Hn H : Hp} {σ : L2.St} {a : Addr} {o : HO} (S : SR K B M Γ Hn H σ) (hn : Hn a = Option.none) (hm : a ∉ M.map (·.1)) (hb : B.H a = Option.none) (ho : H a = some o) : SR K B M Γ (upd Hn a o) H σ := by
  have sn := same_upd (o := o) hn
  refine ⟨⟨fun b u e => ?_, fun p hp => ⟨?_, (S.rep.cell p hp).2.mono sn rfl⟩, S.rep.nd⟩, ⟨S.step.nn.trans sn, S.step.keep, S.step.there, fun b e n => ?_, S.step.nt⟩, S.loc, S.pre, fun i d e => ?_⟩
  · by_cases hq : b = a
    · rw [hq, upd_same] at e
      rw [hq, ho, e]
    · rw [upd_ne hq] at e
      exact S.rep.sub b u e
  · rw [upd_ne fun e => hm (by rw [← e]; exact List.mem_map_of_mem hp)]
    exact (S.rep.cell p hp).1
  · by_cases hq : b = a
    · rw [hq]
      exact .inl hb
    · rw [upd_ne hq] at n
      exact S.step.new b e n
  · obtain ⟨v, h1, h2⟩ := S.sl i d e
    exact ⟨v, h1, h2.mono sn⟩

/-- a block's target: d falls into the slots is, as ds -/
def JC (X : Cx) (tg : Expr) (d : D) (is : List Nat) (ds : List D) : Prop :=
  ∀ Hn H σ v, Same Hn H → Is X.K Hn v d → ∃ ws, IsA X.K Hn ws ds ∧ ∀ Q : L2.St → Hp → Prop, Q (setS σ is ws) H → RunG X tg v σ H Q
def JCs (X : Cx) (ts : List Expr) (is : List Nat) : Prop := ∀ H σ (ws : List V), ws.length = is.length → ∀ Q : L2.St → Hp → Prop, Q (setS σ is ws) H → RunGs X ts ws σ H Q
theorem jc_name (i : Nat) {X : Cx} {x : Str} {d : D} {pos : Pos} (hN : X.N.Nodup) (hi : X.N[i]? = some x := by rfl) (hx : Loc X.env.scope x := by first | exact Or.inl rfl | exact Or.inr rfl)
    (hf : X.fn x = true ∨ X.env.scope.names.lookup x = some .local := by first | exact .inl rfl | exact .inr rfl | assumption) : JC X (.Name x pos) d [i] [d] := fun Hn H σ v e r =>
  ⟨[v], .cons r .nil, fun Q q pins s u I ru => (pg_name hN hi hx hf).run pins s σ H v u Q I ru q⟩
theorem jcs_nil {X : Cx} : JCs X [] [] := fun H σ ws hw Q q pins s us I ru => by
  cases ws with
  | nil => exact pgs_nil.run pins s σ H [] us Q I ru ⟨rfl, q⟩
  | cons => cases hw
theorem jcs_cons (i : Nat) {X : Cx} {x : Str} {pos : Pos} {ts : List Expr} {is : List Nat} (h : JCs X ts is) (hN : X.N.Nodup) (hi : X.N[i]? = some x := by rfl) (hx : Loc X.env.scope x := by first | exact Or.inl rfl | exact Or.inr rfl)
    (hf : X.fn x = true ∨ X.env.scope.names.lookup x = some .local := by first | exact .inl rfl | exact .inr rfl | assumption)
    (hs : (assignEach (.Name x pos :: ts) X.env).map (·.2) = assign (.Name x pos) X.env :: (assignEach ts X.env).map (·.2) := by rfl) : JCs X (.Name x pos :: ts) (i :: is) := fun H σ ws hw Q q pins s us I ru => by
  cases ws with
  | nil => cases hw
  | cons v ws => exact (pgs_cons (pg_name hN hi hx hf) pgs_run hs).run pins s σ H (v :: ws) us Q I ru ⟨v, ws, rfl, h H _ ws (by simpa using hw) Q q⟩
theorem jc_tup {X : Cx} {es : List Expr} {is : List Nat} {ds : List D} {k n : Nat} {pos : Pos} (h : JCs X es is) (hl : ds.length = n) (hi : is.length = n := by rfl) (hc : X.calm = true := by rfl) (hn : (assignEach es X.env).length = n := by rfl) (hst : (assignEach es X.env).findIdx? (·.1) = none := by rfl) : JC X (.Tuple es k pos) (.tup ds) is ds := fun Hn H σ v e r => by
  cases r with
  | @tup t ws _ ht r =>
    refine ⟨ws, r, fun Q q pins s u I ru => ?_⟩
    refine (pg_tup hc pgs_run hn hst).run pins s σ H _ u Q I ru ⟨t, ws, rfl, same_t e ht, by rw [r.length, hl], ?_⟩
    exact h H σ ws (by rw [r.length, hl, hi]) Q q

def RunTs (X : Cx) (ifs : List Expr) (σ : L2.St) (H : Hp) (Q : Bool → Hp → Prop) : Prop := ∀ pins s, Inv X pins σ H s →
  wpAny (model X.prog X.w) X.A (forIn ifs true fun c r => if r = true then do { let ok ← isTrue c X.env (eval c X.env); pure (ForInStep.yield ok) } else pure (ForInStep.yield r)) (TP X pins σ Q) X.xe s
def JTs (X : Cx) (Γ : Sl) (M : Mem) (es : List Expr) (Φ : Bool → Mem → Prop) (Ψ : XP) : Prop :=
  ∀ B Hn H σ, SR X.K B M Γ Hn H σ → Air X B Γ Hn σ Ψ → ∀ Q : Bool → Hp → Prop, (∀ b M' Hn' H', Φ b M' → SR X.K B M' Γ Hn' H' σ → Same Hn Hn' → Q b H') → RunTs X es σ H Q
theorem jts_nil {X : Cx} {Γ : Sl} {M : Mem} {Φ : Bool → Mem → Prop} {Ψ : XP} (h : Φ true M) : JTs X Γ M [] Φ Ψ := fun B Hn H σ S A Q q pins s I => pts_nil.run pins s σ H Q I (q _ _ _ _ h S (Same.refl _))
theorem jts_one {X : Cx} {Γ : Sl} {M : Mem} {c : Expr} {Φ : Bool → Mem → Prop} {Ψ : XP} (h : JT X Γ M c Φ Ψ) : JTs X Γ M [c] Φ Ψ := fun B Hn H σ S A Q q pins s I => (pts_one pt_run).run pins s σ H Q I (h B Hn H σ S A Q q)

/-- nothing leaves -/
abbrev noX : XP := fun _ _ => False
theorem air_no {X : Cx} {B : Bas} {Γ : Sl} {Hn : Hp} {σ : L2.St} : Air X B Γ Hn σ noX := fun _ _ _ _ _ _ h => h.elim
section
variable {X : Cx} {Γ : Sl} {M : Mem} {Ψ : XP} {elt tg iter : Expr} {ifs : List Expr} {scope : Scope} {pos spos : Pos}
abbrev Blks (X : Cx) (scope : Scope) (R : Cx → Prop) : Prop := ∀ (s : Shared) (H : Hp) (C : Addr) (cl : List (Str × Addr)) (fp : List Addr), R (X.blk s H scope (compEnvC scope cl C X.env) fp)
/-- what is asked of a list display over xs -/
def LcAsk (X : Cx) (Γ : Sl) (scope : Scope) (vs : List Nat) (tg : Expr) (ifs : List Expr) (elt : Expr) (Φ : D → Mem → Prop) (xs : List D) (M1 : Mem) : Prop :=
  ∃ Iv : Nat → List D → Mem → Prop, Iv 0 [] M1 ∧ (∀ acc M2, Iv xs.length acc M2 → Φ (.lst acc) M2) ∧ ∀ i x acc M2, xs[i]? = some x → Iv i acc M2 → acc.length ≤ 1000000 ∧ ∃ is ds, (∀ i ∈ is, i ∈ vs) ∧ Blks X scope (fun Y => JC Y tg x is ds) ∧
    Blks X scope fun Y => JTs Y (setD (wipeD Γ vs) is ds) M2 ifs (fun b M3 => if b = true then Blks X scope (fun Z => JE Z (setD (wipeD Γ vs) is ds) M3 elt (fun d M4 => Iv (i + 1) (acc ++ [d]) M4) noX) else Iv (i + 1) acc M3) noX
theorem lc_ask {vs : List Nat} (hvs : ∀ i ∈ vs, i < X.N.length) {Φ : D → Mem → Prop} (h : JI X Γ M tg iter (fun xs M1 => LcAsk X Γ scope vs tg ifs elt Φ xs M1) Ψ) {B : Bas} {Hn H : Hp} {σ : L2.St} (hσ : σ.length = X.N.length) (S : SR X.K B M Γ Hn H σ) (A : Air X B Γ Hn σ Ψ) {Q : VK}
    (q : ∀ v d M' Hn' H', Φ d M' → SR X.K B M' Γ Hn' H' σ → Same Hn Hn' → Is X.K Hn' v d → Q v H') :
    tLc (RunI X tg iter) (fun v σ H Q => Blks X scope fun Y => RunG Y tg v σ H Q) (fun σ H Q => Blks X scope fun Y => RunTs Y ifs σ H Q) (fun σ H Q => Blks X scope fun Y => RunE Y elt σ H Q) vs σ H Q := by
  refine h B Hn H σ S A _ fun J xs M1 Hn1 H1 p S1 e1 G => ?_
  obtain ⟨Iv, i0, fin, turn⟩ := p
  intro L hL
  -- the accumulated list at L, hidden
  refine ⟨fun i m H' => m = xs.length - i ∧ i ≤ xs.length ∧ ∃ acc ws M2 Hn2, Iv i acc M2 ∧ SR X.K B M2 Γ Hn2 H' σ ∧ Same Hn1 Hn2 ∧ H' L = some (.lst ws) ∧ IsA X.K Hn2 ws acc ∧ Hn2 L = none ∧ L ∉ M2.map (·.1), ⟨xs.length, by simp, Nat.zero_le _, [], [], M1, Hn1, i0, S1.allocH hL, Same.refl _, upd_same, .nil, S1.rep.nn hL, fun hm => ?_⟩, ?_⟩
  · obtain ⟨p, hp, e⟩ := List.mem_map.mp hm
    exact S1.rep.ne hp hL e
  · rintro i m H' ⟨rfl, hi, acc, ws, M2, Hn2, iv, S2, e2, h1, ra, hn2, hm2⟩
    have hB : B.H L = none := S1.old hL
    by_cases hlt : i < xs.length
    · refine .inr ⟨G.go i Hn2 H' e2 S2.rep.sub hlt, fun H3 => ∃ acc ws M2 Hn2, Iv (i + 1) acc M2 ∧ SR X.K B M2 Γ Hn2 H3 σ ∧ Same Hn1 Hn2 ∧ H3 L = some (.lst ws) ∧ IsA X.K Hn2 ws acc ∧ Hn2 L = none ∧ L ∉ M2.map (·.1), fun H3 ⟨acc, ws, M2, Hn2, z⟩ => ⟨xs.length - (i + 1), by omega, rfl, hlt, acc, ws, M2, Hn2, z⟩, fun v H3 hy => ?_⟩
      obtain ⟨d, hd, hv⟩ := G.yld i Hn2 H' v H3 e2 S2.rep.sub hy hlt
      obtain ⟨hal, is, ds, his, hjc, hjt⟩ := turn i d acc M2 hd iv
      have run : ∀ Hn3, SR X.K B M2 Γ Hn3 H3 σ → Same Hn1 Hn3 → Is X.K Hn3 v d → H3 L = some (.lst ws) → IsA X.K Hn3 ws acc → Hn3 L = none → (Blks X scope fun Y => RunG Y tg v (wipe σ vs) H3 fun σ2 H2 => wipe σ2 vs = wipe σ vs ∧ (Blks X scope fun Y => RunTs Y ifs σ2 H2 fun b H4 => if b = true then Blks X scope (fun Z => RunE Z elt σ2 H4 fun y H5 => ∃ acc, H5 L = some (.lst acc) ∧ acc.length < sizeLine ∧ ∃ acc' ws M2 Hn2, Iv (i + 1) acc' M2 ∧ SR X.K B M2 Γ Hn2 (upd H5 L (.lst (acc ++ [y]))) σ ∧ Same Hn1 Hn2 ∧ (upd H5 L (.lst (acc ++ [y]))) L = some (.lst ws) ∧ IsA X.K Hn2 ws acc' ∧ Hn2 L = none ∧ L ∉ M2.map (·.1)) else ∃ acc ws M2 Hn2, Iv (i + 1) acc M2 ∧ SR X.K B M2 Γ Hn2 H4 σ ∧ Same Hn1 Hn2 ∧ H4 L = some (.lst ws) ∧ IsA X.K Hn2 ws acc ∧ Hn2 L = none ∧ L ∉ M2.map (·.1))) := by
        intro Hn3 S3 e3 rv hL3 ra3 hn3 s0 H0 C0 cl0 fp0
        obtain ⟨us, ru, kg⟩ := hjc s0 H0 C0 cl0 fp0 Hn3 H3 (wipe σ vs) v S3.rep.sub rv
        refine kg _ ⟨wipe_set his, ?_⟩
        intro s1 H1' C1 cl1 fp1
        have hm3 : L ∉ M2.map (·.1) := hm2
        have Sb : SR X.K ⟨Hn3, H3, M2.map (·.1)⟩ M2 (setD (wipeD Γ vs) is ds) Hn3 H3 (setS (wipe σ vs) is us) := (S3.rebase.wiped vs).setAll ru fun j hj => by
          rw [wipe_length, hσ]
          exact hvs j (his j hj)
        -- out of the block again
        have out : ∀ {M4 : Mem} {Hn4 H4 : Hp} {Γ4 : Sl} {σ4 : L2.St}, SR X.K ⟨Hn3, H3, M2.map (·.1)⟩ M4 Γ4 Hn4 H4 σ4 → SR X.K B M4 Γ Hn4 H4 σ ∧ H4 L = some (.lst ws) ∧ Hn4 L = none ∧ L ∉ M4.map (·.1) := by
          intro M4 Hn4 H4 Γ4 σ4 S4
          refine ⟨(S3.back S4).slots fun j x e => ?_, S4.step.keep L _ hm3 hL3, ?_, fun hm => ?_⟩
          · obtain ⟨w, w1, w2⟩ := S3.sl j x e
            exact ⟨w, w1, w2.mono S4.step.nn⟩
          · cases q : Hn4 L with
            | none => rfl
            | some o =>
              have z : Fre H3 L := S4.step.new L hn3 (by rw [q]; simp)
              rcases z with z | ⟨xs, z⟩ <;> rw [hL3] at z <;> cases z
          · obtain ⟨p, hp, e⟩ := List.mem_map.mp hm
            rcases S4.loc p hp with z | z
            · exact hm3 (by rw [← e]; exact z)
            · have z' : H3 p.1 = Option.none := z
              rw [e, hL3] at z'
              cases z'
        refine hjt s1 H1' C1 cl1 fp1 _ Hn3 H3 _ Sb air_no _ fun b M4 Hn4 H4 p4 S4 e4 => ?_
        cases b with
        | true =>
          rw [if_pos rfl] at p4
          rw [if_pos rfl]
          intro s2 H2' C2 cl2 fp2
          refine p4 s2 H2' C2 cl2 fp2 _ Hn4 H4 _ S4 air_no _ fun y dy M5 Hn5 H5 p5 S5 e5 ry => ?_
          obtain ⟨S6, h6, n6, m6⟩ := out S5
          refine ⟨ws, h6, by rw [ra3.length, sizeLine_eq]; omega, acc ++ [dy], ws ++ [y], M5, Hn5, p5, S6.updH n6 m6 hB (fun _ e => by cases e), e3.trans (e4.trans e5), upd_same, (ra3.mono (e4.trans e5)).append (.cons ry .nil), n6, m6⟩
        | false =>
          rw [if_neg Bool.false_ne_true] at p4
          rw [if_neg Bool.false_ne_true]
          obtain ⟨S6, h6, n6, m6⟩ := out S4
          exact ⟨acc, ws, M4, Hn4, p4, S6, e3.trans e4, h6, ra3.mono e4, n6, m6⟩
      rcases hv with ⟨rfl, rv⟩ | ⟨t, o, ht, rfl, rv⟩
      · exact run Hn2 S2 e2 rv h1 ra hn2
      · have ne : L ≠ t := fun e => by rw [e, ht] at h1; cases h1
        have ht2 := S2.rep.nn ht
        exact run _ (S2.alloc ht) (e2.trans (same_upd ht2)) rv (by rw [upd_ne ne]; exact h1) (ra.mono (same_upd ht2)) (by rw [upd_ne ne]; exact hn2)
    · have e : i = xs.length := by omega
      subst e
      have sn := same_upd (o := .lst ws) hn2
      exact .inl ⟨G.stop Hn2 H' e2 S2.rep.sub, q _ _ M2 _ H' (fin acc M2 iv) (S2.known hn2 hm2 hB h1) ((e1.trans e2).trans sn) (.lst upd_same (ra.mono sn))⟩
theorem je_lc {own : List (Str × Nat)} {Φ : D → Mem → Prop} (hN : X.N.Nodup) (ok : BlkOk X.N X.env.scope scope own) (h : JI X Γ M tg iter (fun xs M1 => LcAsk X Γ scope (own.map (·.2)) tg ifs elt Φ xs M1) Ψ) (hc : X.calm = true := by rfl) (hs : ∀ x, foldedSetIterable iter X.env x = pure x := by intro _; rfl) : JE X Γ M (.ListComp elt [⟨tg, iter, ifs, 0⟩] scope pos) Φ Ψ := fun B Hn H σ S A Q q pins s I => by
  refine (pe_lc (g := fun v σ H Q => Blks X scope fun Y => RunG Y tg v σ H Q) (tt := fun σ H Q => Blks X scope fun Y => RunTs Y ifs σ H Q) (te := fun σ H Q => Blks X scope fun Y => RunE Y elt σ H Q) hc hN pi_run ok (fun s H C cl fp => ⟨fun pins s' σ H v u Q I r h => h s _ C cl fp pins s' u I r⟩) (fun s H C cl fp => ⟨fun pins s' σ H Q I h => h s _ C cl fp pins s' I⟩) (fun s H C cl fp => ⟨fun pins s' σ H Q I h => h s _ C cl fp pins s' I⟩) hs).run pins s σ H Q I ?_
  refine lc_ask (fun i hi => ?_) h I.len S A q
  obtain ⟨p, hp, rfl⟩ := List.mem_map.mp hi
  exact (List.getElem?_eq_some_iff.mp (ok.ix p hp)).1
/-- y = [..] -/
theorem js_setLc (i : Nat) {y : Str} {py : Pos} {own : List (Str × Nat)} {P : Post} (hN : X.N.Nodup) (ok : BlkOk X.N X.env.scope scope own) (h : JI X Γ M tg iter (fun xs M1 => LcAsk X Γ scope (own.map (·.2)) tg ifs elt (fun d M1 => P.nx (Γ.set i (some d)) M1) xs M1) (fun x M1 => P.ex x Γ M1))
    (hy : X.N[i]? = some y := by rfl) (hyl : X.env.scope.names.lookup y = some .local := by rfl) (hc : X.calm = true := by rfl) (hsw : swapsWith (.ListComp elt [⟨tg, iter, ifs, 0⟩] scope pos) (some (.Name y py)) spos.line X.env = pure true := by rfl) (hs : ∀ x, foldedSetIterable iter X.env x = pure x := by intro _; rfl) : JS X Γ M (.Assign [.Name y py] (.ListComp elt [⟨tg, iter, ifs, 0⟩] scope pos) spos) P := fun B Hn H σ S De K pins s I => by
  refine (ps_setLc (g := fun v σ H Q => Blks X scope fun Y => RunG Y tg v σ H Q) (tt := fun σ H Q => Blks X scope fun Y => RunTs Y ifs σ H Q) (te := fun σ H Q => Blks X scope fun Y => RunE Y elt σ H Q) hc hN hy hyl hsw pi_run ok (fun s H C cl fp => ⟨fun pins s' σ H v u Q I r h => h s _ C cl fp pins s' u I r⟩) (fun s H C cl fp => ⟨fun pins s' σ H Q I h => h s _ C cl fp pins s' I⟩) (fun s H C cl fp => ⟨fun pins s' σ H Q I h => h s _ C cl fp pins s' I⟩) hs).run pins s σ H De I ?_
  refine lc_ask (fun i hi => ?_) h I.len S K.air fun v d M1 Hn1 H1 p S1 e1 r1 => ?_
  · obtain ⟨p, hp, rfl⟩ := List.mem_map.mp hi
    exact (List.getElem?_eq_some_iff.mp (ok.ix p hp)).1
  · exact K.nx _ _ _ _ _ p (S1.set (len_of I hy) r1)
end

/-! ### zip -/
theorem walk_zipT {K : PySem.W.Frag} {a b : Addr} {xs ys : List V} : Walk (RZ.ItzT K a b) (min xs.length ys.length) (fun H => SqT K H a xs ∧ SqT K H b ys) (YPair (fun i => xs[i]?) (fun i => ys[i]?)) := by
  constructor
  · intro i H hi q
    have h1 : i < xs.length := by omega
    have h2 : i < ys.length := by omega
    exact ⟨xs, ys, _, _, q.1, q.2, List.getElem?_eq_getElem h1, List.getElem?_eq_getElem h2⟩
  · intro H q
    exact ⟨xs, ys, q.1, q.2, by omega⟩
  · intro i H v H' _ q y
    obtain ⟨t, x, z, h1, h2, h3, h4, h5⟩ := y
    exact ⟨t, x, z, h1, h2, h3, h4 xs q.1, h5 ys q.2⟩
theorem good_zip {K : PySem.W.Frag} {Hn : Hp} {J : It} {vs us : List V} {xs ys : List D} (hl : xs.length = ys.length) (G : Hp → Prop) (hG : ∀ Hn' H, Same Hn Hn' → Same Hn' H → G H) (W : Walk J (min vs.length us.length) G (YPair (fun i => vs[i]?) (fun i => us[i]?))) (r1 : IsA K Hn vs xs) (r2 : IsA K Hn us ys) : Good K Hn J (List.zipWith (fun x y => D.tup [x, y]) xs ys) := by
  have n1 := r1.length
  have n2 := r2.length
  refine ⟨fun i Hn' H e f hi => W.goes i H (by rw [List.length_zipWith] at hi; omega) (hG Hn' H e f), fun Hn' H e f => ?_, fun i Hn' H v H' e f hy hi => ?_⟩
  · have := W.stops H (hG Hn' H e f)
    rw [List.length_zipWith, ← n1, ← n2]
    exact this
  · rw [List.length_zipWith] at hi
    obtain ⟨t, x, y, rfl, ht, rfl, hx, hy⟩ := W.yields i H v H' (by omega) (hG Hn' H e f) hy
    obtain ⟨dx, h1, i1⟩ := r1.get' hx
    obtain ⟨dy, h2, i2⟩ := r2.get' hy
    refine ⟨.tup [dx, dy], ?_, .inr ⟨t, _, ht, rfl, ?_⟩⟩
    · rw [List.getElem?_zipWith, h1, h2]
    · have sn := same_upd (o := .tup [x, y]) (f.free ht)
      exact .tup (.inl upd_same) (.cons (i1.mono (e.trans sn)) (.cons (i2.mono (e.trans sn)) .nil))
section
variable {X : Cx} {Γ : Sl} {M : Mem} {Ψ : XP} {Φ : List D → Mem → Prop} {a b : Expr} {pos p tpos : Pos} {elts : List Expr} {kk : Nat}
theorem ji_zip (hm : X.mg "zip" = none) (h : JA X Γ M [a, b] (fun ds M1 => ∃ xs ys, (ds = [.lst xs, .lst ys] ∨ ds = [.tup xs, .tup ys]) ∧ xs.length = ys.length ∧ Φ (List.zipWith (fun x y => D.tup [x, y]) xs ys) M1) Ψ) (hg : Gl X "zip" := by rfl)
    (hs : starEach [a, b] X.env = (false, eval a X.env) :: starEach [b] X.env := by rfl) (hpl : (backTo pos (starEach [b] X.env)).any (·.1) = false := by rfl) : JI X Γ M (.Tuple elts kk tpos) (.Call (.Name "zip" p) [a, b] [] pos) Φ Ψ := fun B Hn H σ S A R q pins s I => by
  refine (RZ.pi_zipA hg hm pa_run hs hpl).run pins s σ H R I ?_
  refine h B Hn H σ S A _ fun vs ds M1 Hn1 H1 p S1 e1 r1 => ?_
  obtain ⟨xs, ys, p0, hl, p⟩ := p
  rcases p0 with rfl | rfl
  · obtain ⟨v1, v2, rfl, ra, rb⟩ := r1.two
    cases ra with
    | @lst t ws _ h1 ra =>
      cases rb with
      | @lst t2 us _ h2 rb =>
        refine ⟨t, t2, ws, us, rfl, .inl ⟨SqL.of (S1.rep.sub _ _ h1), SqL.of (S1.rep.sub _ _ h2), q _ _ _ _ _ p S1 e1 (good_zip hl (fun H => SqL X.K H t ws ∧ SqL X.K H t2 us) (fun Hn' H e f => ⟨SqL.of (f _ _ (e _ _ h1)), SqL.of (f _ _ (e _ _ h2))⟩) (walk_zip rfl) ra rb)⟩⟩
  · obtain ⟨v1, v2, rfl, ra, rb⟩ := r1.two
    cases ra with
    | @tup t ws _ h1 ra =>
      cases rb with
      | @tup t2 us _ h2 rb =>
        refine ⟨t, t2, ws, us, rfl, .inr ⟨same_t S1.rep.sub h1, same_t S1.rep.sub h2, q _ _ _ _ _ p S1 e1 (good_zip hl (fun H => SqT X.K H t ws ∧ SqT X.K H t2 us) (fun Hn' H e f => ⟨same_t (e.trans f) h1, same_t (e.trans f) h2⟩) walk_zipT ra rb)⟩⟩
end
end DL
end

section
set_option Elab.async false
set_option linter.all false
set_option maxRecDepth 100000
set_option maxHeartbeats 4000000
/-! Dict displays with a for in them, keys that are tuples. -/
namespace DL
open PySem PySem.Spec PyProof.Rows L2

/-- the new dict gets an item whose key is a tuple -/
theorem set_new {X : Cx} {ps : List (Addr × Obj)} {τ : L2.St} {G : Hp} {sh : Shared} {Ex : Value → Shared → Prop} {L q : Addr} {its : List (List Key × V)} {ky : List Key} {w : V} {r : Value} {Wn : Unit → Shared → Prop} (hu : X.A.units + 1 < cLine) (J : Inv X ps τ G sh)
    (at' : G L = some (.dT its)) (few : its.length < sizeLine) (aq : G q = some (.tup (ky.map kV))) (rw' : RelV w r) (k : ∀ sh', Inv X ps τ (upd G L (.dT (putK its ky w))) sh' → Wn () sh') : wpAny (model X.prog X.w) X.A (dictSet L (.ref q) r) Wn Ex sh := by
  obtain ⟨n1, n2, ys, pr, ok⟩ := dt_of J.hok at'
  have few' : ys.length ≤ sizeLine := (Paired.length pr) ▸ n1
  have few2 : (putK its ky w).length ≤ sizeLine := by
    have := length_putK its ky w
    omega
  refine wpAny_dictSet_heap (show X.A.units < cLine by omega) (key_of J.hok aq) ok (hsz := few') fun hp okn sm => k _ ?_
  obtain ⟨ob, es, ep, g1, g2, g3, g4, _, g6⟩ := okn
  have nw : ∀ (c : Addr) (zs : List V), G c = some (.tup zs) → upd G L (.dT (putK its ky w)) c = some (.tup zs) := fun c zs e => (upd_ne (ne_of e at' (fun z => nomatch z))).trans e
  exact d_write J (by rw [at']; exact True.intro) sm ⟨ob, g1⟩ ⟨few2, n2, _, (pr.put ky aq rw').keeps nw, ob, es, ep, g1, g2, g3, g4, g6⟩

/-- what is asked of {k: v for .. in ..}: D is where the dict comes to stand -/
def tDT (wi : TI) (tg : TG) (ts : TT) (ek ev : TE) (vs : List Nat) : TE := fun τ G Q => wi τ G fun J G1 => ∀ L, G1 L = none → ∃ W : Nat → Nat → Hp → Prop, (∃ n, W 0 n (upd G1 L (.dT []))) ∧ ∀ j n G, W j n G →
  (J.stop j G ∧ Q (.ref L) G) ∨ (J.go j G ∧ ∃ Nx : Hp → Prop, (∀ G', Nx G' → ∃ n', n' < n ∧ W (j + 1) n' G') ∧ ∀ x G', J.yld j G x G' → tg x (wipe τ vs) G' fun τ2 G2 => wipe τ2 vs = wipe τ vs ∧ ts τ2 G2 fun b G3 =>
    if b = true then ek τ2 G3 fun y G4 => ev τ2 G4 fun z G5 => ∃ its ky q, y = .ref q ∧ G5 q = some (.tup (ky.map kV)) ∧ G5 L = some (.dT its) ∧ its.length < sizeLine ∧ Nx (upd G5 L (.dT (putK its ky z))) else Nx G3)
section
variable {X : Cx} {sc : Scope} {kx vx tg it : Expr} {ifs : List Expr} {wi : TI} {g : TG} {tt : TT} {tk tv : TE}
theorem core_dT {ps : List (Addr × Obj)} {sh : Shared} {τ : L2.St} {G : Hp} {Q : VK} {own : List (Str × Nat)} {pos pos' : Pos} {use : Option (Value → Sem Unit)} {Wf : Value → Shared → Prop} (hu : X.A.units + 1 < cLine) (calm : X.calm = true) (nd : X.N.Nodup) (J : Inv X ps τ G sh) (hit : PI X tg it wi) (bk : BlkOk X.N X.env.scope sc own)
    (hg : Blks X sc fun Y => PG Y tg g) (ht : Blks X sc fun Y => PTs Y ifs tt) (hk : Blks X sc fun Y => PE Y kx tk) (hv : Blks X sc fun Y => PE Y vx tv) (fold : ∀ x, foldedSetIterable it X.env x = pure x) (ask : tDT wi g tt tk tv (own.map (·.2)) τ G Q)
    (fin : ∀ L C sh' m G', Inv X ps τ G' sh' → Q (.ref L) G' → sh'.heap.Ns C m → FpOk X ps G' C → compPost (model X.prog X.w) X.A X.xe use Wf (.ref L) C (.ok .next) sh') :
    wpAny (model X.prog X.w) X.A (comprehension (.DictComp kx vx [⟨tg, it, ifs, 0⟩] sc pos) sc X.env pos' newDict false (eval it X.env) use) Wf X.xe sh := by
  have cells : ∀ y ∈ sc.names, y.2 = .free → ∃ c, X.env.cells.lookup y.1 = some c := by
    intro y hy e
    exact (bk.free y hy e).elim (fun k => J.ok.has _ (.inl k)) fun k => J.ok.has _ (.inr k)
  refine wpAny_comprehension_free (use := use) rfl fold (closure_ok cells) bk.kind (fun y hy e => (bk.uniq y hy).trans (congrArg some e)) ?_
  refine thn (hit.run ps sh τ G _ J ask) fun v1 s1 k1 => thn k1 fun v2 s2 k2 => ?_
  obtain ⟨i, fp, tn, It', G2, rfl, J2, T, t2, f2, more⟩ := k2
  refine wpAny_newObj_type (newEnv_comp ?_)
  obtain ⟨L, hL⟩ : ∃ L, s2.heap.objs.size = L := ⟨_, rfl⟩
  rw [hL]
  have free : G2 L = none := J2.hok.fresh (Nat.le_of_eq hL)
  obtain ⟨W, ⟨n0, w0⟩, turns⟩ := more L free
  obtain ⟨s3, e3⟩ : ∃ s3 : Shared, ({ s2 with heap := s2.heap.push { cls := .type "dict", data := .dict #[] } } : Shared) = s3 := ⟨_, rfl⟩
  rw [e3]
  have J3 : Inv X ps τ (upd G2 L (.dT [])) s3 := by
    subst e3
    refine J2.laid (t' := s2.toks) (fun b o q => Heap.get?_push_of_some _ q) (Nat.le_of_eq hL) (hL ▸ ?_)
    exact dt_empty s2.heap J2.big
  have hp3 : s3.heap = s2.heap.push { cls := .type "dict", data := .dict #[] } := e3 ▸ rfl
  have below : ∀ b ∈ fp, b < s2.heap.objs.size := fun b hb => (T.obj _ _ t2 b hb).elim fun o q => Heap.lt_size q.1
  have f3 : ∀ b ∈ fp, FpOk X ps (upd G2 L (.dT [])) b ∧ b < s3.heap.objs.size := by
    intro b hb
    have lt := below b hb
    have up : b < s3.heap.objs.size := by
      rw [hp3, Heap.size_push]
      exact Nat.lt_succ_of_lt lt
    refine ⟨⟨(upd_ne (Nat.ne_of_lt (hL ▸ lt))).trans (f2 b hb).1, (f2 b hb).2⟩, up⟩
  have t3 : tn 0 s3.heap := T.keep _ _ _ t2 fun b _ o q => hp3 ▸ Heap.get?_push_of_some _ q
  have J4 := block_start J3 bk nd f3
  obtain ⟨C, hC⟩ : ∃ C, s3.heap.objs.size = C := ⟨_, rfl⟩
  obtain ⟨ce, hce⟩ : ∃ ce, compEnvC sc (cellsFrom (s3.heap.objs.size + 1) sc.names (cloFrom X.env.cells sc.names [])) s3.heap.objs.size X.env = ce := ⟨_, rfl⟩
  obtain ⟨G3, hG3⟩ : ∃ G3, upd G2 L (.dT []) = G3 := ⟨_, rfl⟩
  have qg := hg s3 G3 s3.heap.objs.size (cellsFrom (s3.heap.objs.size + 1) sc.names (cloFrom X.env.cells sc.names [])) fp
  have qt := ht s3 G3 s3.heap.objs.size (cellsFrom (s3.heap.objs.size + 1) sc.names (cloFrom X.env.cells sc.names [])) fp
  have qk := hk s3 G3 s3.heap.objs.size (cellsFrom (s3.heap.objs.size + 1) sc.names (cloFrom X.env.cells sc.names [])) fp
  have qv := hv s3 G3 s3.heap.objs.size (cellsFrom (s3.heap.objs.size + 1) sc.names (cloFrom X.env.cells sc.names [])) fp
  show codeAny _ _ (.compStart (.DictComp kx vx [⟨tg, it, ifs, 0⟩] sc pos) 0 (.ref i) (.ref L) (compEnvC sc (cellsFrom (s3.heap.objs.size + 1) sc.names (cloFrom X.env.cells sc.names [])) s3.heap.objs.size X.env)) (compPost (model X.prog X.w) X.A X.xe use Wf (.ref L) s3.heap.objs.size) { s3 with heap := pushCells (s3.heap.push { cls := .type "dict", data := .dict #[] }) sc.names }
  rw [hG3] at J3 J4 f3 w0
  rw [hce] at J4 qg qt qk qv ⊢
  have loc : ce.locals = C := by rw [← hce, ← hC]; rfl
  obtain ⟨s4, e4⟩ : ∃ s4 : Shared, ({ s3 with heap := pushCells (s3.heap.push { cls := .type "dict", data := .dict #[] }) sc.names } : Shared) = s4 := ⟨_, rfl⟩
  rw [e4] at J4 ⊢
  have t4 : tn 0 s4.heap := T.keep _ _ _ t3 fun b _ o q => e4 ▸ pushCells_keeps _ _ _ _ (Heap.get?_push_of_some _ q)
  have none3 : ∀ b ∈ fp, G3 b = none := fun b hb => (f3 b hb).1.1
  have foot : ∀ (τ' : L2.St) (G' : Hp) (s' : Shared), Inv (X.blk s3 G3 sc ce fp) [] τ' G' s' → (∀ b ∈ fp, G' b = none) → ∀ b ∈ fp, FpOk (X.blk s3 G3 sc ce fp) [] G' b := by
    intro τ' G' s' J' nn b hb
    have ex := J'.ok.exf b hb
    refine ⟨nn b hb, ex.1, J'.ok.exfs b hb, .inl hb, fun x c e => ex.2 x c e, fun p hp => ?_⟩
    cases hp
  have lp : codeAny (model X.prog X.w) X.A (.compLoop (.DictComp kx vx [⟨tg, it, ifs, 0⟩] sc pos) 0 (.ref i) (.ref L) ce) (compPost (model X.prog X.w) X.A X.xe use Wf (.ref L) s3.heap.objs.size) s4 := by
    refine compLoop_anyD (fun n s' => ∃ j G', Inv (X.blk s3 G3 sc ce fp) [] (wipe τ (own.map (·.2))) G' s' ∧ tn j s'.heap ∧ (∀ b ∈ fp, G' b = none) ∧ W j n G') ?_ n0 ⟨0, G3, J4, t4, none3, w0⟩
    rintro n s5 ⟨j, G5, J5, t5, none5, w5⟩
    rcases turns j n G5 w5 with ⟨over, last⟩ | ⟨go, Nx, goes, step⟩
    · refine thnF (T.done (X.blk s3 G3 sc ce fp) rfl rfl rfl calm j [] s5 _ G5 (fun _ _ => False) J5 (foot _ _ _ J5 none5) t5 over) ?_
      rintro r s6 ⟨rfl, J6⟩
      have J7 : Inv X ps τ G5 s6 := J3.call' (ch := fp) J6.os J6.base J6.hok J6.bare fun b hb =>
        have z := (f3 b hb).1.2
        ⟨z.2.2.1, z.1, z.2.2.2.1, z.2.2.2.2⟩
      have z : G5 ce.locals = none := J6.free
      rw [loc, ← hC] at z
      obtain ⟨m, hm, _⟩ := J6.loc
      have hm : s6.heap.Ns ce.locals m := hm
      rw [loc, ← hC] at hm
      exact fin L _ s6 m G5 J7 last hm (J3.fpOk (Nat.le_refl _) z)
    · refine thnF (T.item (X.blk s3 G3 sc ce fp) rfl rfl rfl calm j [] s5 _ G5 (fun _ _ => False) J5 (foot _ _ _ J5 none5) t5 go) ?_
      rintro r s6 ⟨u, rfl, k6⟩
      refine thnF k6 ?_
      rintro _ s7 ⟨x, G7, J7, r7, y7, t7, none7⟩
      have J7' := J7.pinned (foot _ _ _ J7 none7) (T.obj _ _ t7)
      refine thnF (qg.run _ s7 _ G7 x u _ J7' r7 (step x G7 y7)) ?_
      rintro _ s8 ⟨τ8, G8, J8, w8, q8⟩
      refine thnF (qt.run _ s8 τ8 G8 _ J8 q8) ?_
      rintro b s9 ⟨G9, J9, q9⟩
      have close : ∀ (s' : Shared) (G' : Hp), Inv (X.blk s3 G3 sc ce fp) ([] ++ pinsAt fp s7.heap) τ8 G' s' → Nx G' → ∃ m, m < n ∧ ∃ j G', Inv (X.blk s3 G3 sc ce fp) [] (wipe τ (own.map (·.2))) G' s' ∧ tn j s'.heap ∧ (∀ b ∈ fp, G' b = none) ∧ W j m G' := by
        intro s' G' J' nx
        obtain ⟨n', lt, w'⟩ := goes G' nx
        have pin : ∀ b ∈ fp, ∀ o, s7.heap.get? b = some o → s'.heap.get? b = some o ∧ G' b = none := fun b hb o e => by
          have z := J'.pin (b, o) (List.mem_append_right _ (List.mem_append_right _ (mem_pinsAt hb e)))
          exact ⟨z.1, z.2.1⟩
        have same : (wipe τ (own.map (·.2))).length = τ8.length := by
          rw [← w8]
          exact wipe_length τ8 _
        refine ⟨n', lt, j + 1, G', (J'.unpinned (pins := [])).weak same fun j v e => (wipe_some (w8 ▸ e)).1, ?_, ?_, w'⟩
        · exact T.keep _ _ _ t7 fun b hb o e => (pin b hb o e).1
        · intro b hb
          obtain ⟨o, e, _⟩ := T.obj _ _ t7 b hb
          exact (pin b hb o e).2
      by_cases hb : b = true
      · rw [if_pos hb] at q9 ⊢
        refine thnF (qk.run _ s9 τ8 G9 _ J9 q9) ?_
        rintro y s10 ⟨yk, G10, J10, r10, q10⟩
        refine thnF (qv.run _ s10 τ8 G10 _ J10 q10) ?_
        rintro z s11 ⟨yv, G11, J11, r11, its, ky, q, rfl, aq, aL, few, nx⟩
        cases (show y = Value.ref q from r10)
        exact set_new (X := X.blk s3 G3 sc ce fp) hu J11 aL few aq r11 fun s12 J12 => close s12 _ J12 nx
      · rw [if_neg hb] at q9 ⊢
        exact close s9 G9 J9 q9
  exact codeAny_compStart_dict lp (T.self X.A 0 _ _ _ t4 lp)
theorem pe_dT {own : List (Str × Nat)} {pos : Pos} (hu : X.A.units + 1 < cLine) (calm : X.calm = true) (nd : X.N.Nodup) (hit : PI X tg it wi) (bk : BlkOk X.N X.env.scope sc own) (hg : Blks X sc fun Y => PG Y tg g) (ht : Blks X sc fun Y => PTs Y ifs tt) (hk : Blks X sc fun Y => PE Y kx tk) (hv : Blks X sc fun Y => PE Y vx tv)
    (fold : ∀ x, foldedSetIterable it X.env x = pure x := by intro _; rfl) : PE X (.DictComp kx vx [⟨tg, it, ifs, 0⟩] sc pos) (tDT wi g tt tk tv (own.map (·.2))) := by
  constructor
  intro ps sh τ G Q J ask
  rw [arm_eval_DictComp]
  refine core_dT hu calm nd J hit bk hg ht hk hv fold ask fun L C sh' m G' J' q nm f => ⟨m, nm, fun hp sb => ?_⟩
  obtain ⟨z0, z1, z2, z3, z4, z5⟩ := f
  have J2 := J'.turned (t' := sh'.toks) (fun b o hb e => (sb.2 b hb).trans e) z0 z1 z3 z4 z5
  exact ⟨.ref L, G', J2, rfl, q⟩
end

section
variable {X : Cx} {Γ : Sl} {M : Mem} {Ψ : XP} {kx vx tg iter : Expr} {ifs : List Expr} {scope : Scope} {pos spos : Pos}
/-- what is asked of {k: v for tg in xs} -/
def DcAsk (X : Cx) (Γ : Sl) (scope : Scope) (vs : List Nat) (tg : Expr) (ifs : List Expr) (kx vx : Expr) (Φ : D → Mem → Prop) (xs : List D) (M1 : Mem) : Prop :=
  ∃ Iv : Nat → List (D × D) → Mem → Prop, Iv 0 [] M1 ∧ (∀ acc M2, Iv xs.length acc M2 → Φ (.dT acc) M2) ∧ ∀ i x acc M2, xs[i]? = some x → Iv i acc M2 → acc.length ≤ 1000000 ∧ ∃ is ds, (∀ i ∈ is, i ∈ vs) ∧ Blks X scope (fun Y => JC Y tg x is ds) ∧
    Blks X scope fun Y => JTs Y (setD (wipeD Γ vs) is ds) M2 ifs (fun b M3 => if b = true then Blks X scope (fun Z => JE Z (setD (wipeD Γ vs) is ds) M3 kx (fun dk M4 => ∃ k, dk = tkD k ∧ k ≠ [] ∧ Blks X scope fun Z' => JE Z' (setD (wipeD Γ vs) is ds) M4 vx (fun d M5 => Iv (i + 1) (ptD acc dk d) M5) noX) noX) else Iv (i + 1) acc M3) noX
theorem dc_ask {vs : List Nat} (hvs : ∀ i ∈ vs, i < X.N.length) {Φ : D → Mem → Prop} (h : JI X Γ M tg iter (fun xs M1 => DcAsk X Γ scope vs tg ifs kx vx Φ xs M1) Ψ) {B : Bas} {Hn H : Hp} {σ : L2.St} (hσ : σ.length = X.N.length) (S : SR X.K B M Γ Hn H σ) (A : Air X B Γ Hn σ Ψ) {Q : VK}
    (q : ∀ v d M' Hn' H', Φ d M' → SR X.K B M' Γ Hn' H' σ → Same Hn Hn' → Is X.K Hn' v d → Q v H') :
    tDT (RunI X tg iter) (fun v σ H Q => Blks X scope fun Y => RunG Y tg v σ H Q) (fun σ H Q => Blks X scope fun Y => RunTs Y ifs σ H Q) (fun σ H Q => Blks X scope fun Y => RunE Y kx σ H Q) (fun σ H Q => Blks X scope fun Y => RunE Y vx σ H Q) vs σ H Q := by
  refine h B Hn H σ S A _ fun J xs M1 Hn1 H1 p S1 e1 G => ?_
  obtain ⟨Iv, i0, fin, turn⟩ := p
  intro L hL
  refine ⟨fun i m H' => m = xs.length - i ∧ i ≤ xs.length ∧ ∃ acc ws M2 Hn2, Iv i acc M2 ∧ SR X.K B M2 Γ Hn2 H' σ ∧ Same Hn1 Hn2 ∧ H' L = some (.dT ws) ∧ IsT X.K Hn2 ws acc ∧ Hn2 L = none ∧ L ∉ M2.map (·.1), ⟨xs.length, by simp, Nat.zero_le _, [], [], M1, Hn1, i0, S1.allocH hL, Same.refl _, upd_same, .nil, S1.rep.nn hL, fun hm => ?_⟩, ?_⟩
  · obtain ⟨p, hp, e⟩ := List.mem_map.mp hm
    exact S1.rep.ne hp hL e
  · rintro i m H' ⟨rfl, hi, acc, ws, M2, Hn2, iv, S2, e2, h1, ra, hn2, hm2⟩
    have hB : B.H L = none := S1.old hL
    by_cases hlt : i < xs.length
    · refine .inr ⟨G.go i Hn2 H' e2 S2.rep.sub hlt, fun H3 => ∃ acc ws M2 Hn2, Iv (i + 1) acc M2 ∧ SR X.K B M2 Γ Hn2 H3 σ ∧ Same Hn1 Hn2 ∧ H3 L = some (.dT ws) ∧ IsT X.K Hn2 ws acc ∧ Hn2 L = none ∧ L ∉ M2.map (·.1), fun H3 ⟨acc, ws, M2, Hn2, z⟩ => ⟨xs.length - (i + 1), by omega, rfl, hlt, acc, ws, M2, Hn2, z⟩, fun v H3 hy => ?_⟩
      obtain ⟨d, hd, hv⟩ := G.yld i Hn2 H' v H3 e2 S2.rep.sub hy hlt
      obtain ⟨hal, is, ds, his, hjc, hjt⟩ := turn i d acc M2 hd iv
      have run : ∀ Hn3, SR X.K B M2 Γ Hn3 H3 σ → Same Hn1 Hn3 → Is X.K Hn3 v d → H3 L = some (.dT ws) → IsT X.K Hn3 ws acc → Hn3 L = none → (Blks X scope fun Y => RunG Y tg v (wipe σ vs) H3 fun σ2 H2 => wipe σ2 vs = wipe σ vs ∧ (Blks X scope fun Y => RunTs Y ifs σ2 H2 fun b H4 => if b = true then Blks X scope (fun Z => RunE Z kx σ2 H4 fun y H4' => Blks X scope fun Z' => RunE Z' vx σ2 H4' fun z H5 => ∃ its ky q, y = .ref q ∧ H5 q = some (.tup (ky.map kV)) ∧ H5 L = some (.dT its) ∧ its.length < sizeLine ∧ ∃ acc' ws M2 Hn2, Iv (i + 1) acc' M2 ∧ SR X.K B M2 Γ Hn2 (upd H5 L (.dT (putK its ky z))) σ ∧ Same Hn1 Hn2 ∧ (upd H5 L (.dT (putK its ky z))) L = some (.dT ws) ∧ IsT X.K Hn2 ws acc' ∧ Hn2 L = none ∧ L ∉ M2.map (·.1)) else ∃ acc ws M2 Hn2, Iv (i + 1) acc M2 ∧ SR X.K B M2 Γ Hn2 H4 σ ∧ Same Hn1 Hn2 ∧ H4 L = some (.dT ws) ∧ IsT X.K Hn2 ws acc ∧ Hn2 L = none ∧ L ∉ M2.map (·.1))) := by
        intro Hn3 S3 e3 rv hL3 ra3 hn3 s0 H0 C0 cl0 fp0
        obtain ⟨us, ru, kg⟩ := hjc s0 H0 C0 cl0 fp0 Hn3 H3 (wipe σ vs) v S3.rep.sub rv
        refine kg _ ⟨wipe_set his, ?_⟩
        intro s1 H1' C1 cl1 fp1
        have hm3 : L ∉ M2.map (·.1) := hm2
        have Sb : SR X.K ⟨Hn3, H3, M2.map (·.1)⟩ M2 (setD (wipeD Γ vs) is ds) Hn3 H3 (setS (wipe σ vs) is us) := (S3.rebase.wiped vs).setAll ru fun j hj => by
          rw [wipe_length, hσ]
          exact hvs j (his j hj)
        have out : ∀ {M4 : Mem} {Hn4 H4 : Hp} {Γ4 : Sl} {σ4 : L2.St}, SR X.K ⟨Hn3, H3, M2.map (·.1)⟩ M4 Γ4 Hn4 H4 σ4 → SR X.K B M4 Γ Hn4 H4 σ ∧ H4 L = some (.dT ws) ∧ Hn4 L = none ∧ L ∉ M4.map (·.1) := by
          intro M4 Hn4 H4 Γ4 σ4 S4
          refine ⟨(S3.back S4).slots fun j x e => ?_, S4.step.keep L _ hm3 hL3, ?_, fun hm => ?_⟩
          · obtain ⟨w, w1, w2⟩ := S3.sl j x e
            exact ⟨w, w1, w2.mono S4.step.nn⟩
          · cases q : Hn4 L with
            | none => rfl
            | some o =>
              have z : Fre H3 L := S4.step.new L hn3 (by rw [q]; simp)
              rcases z with z | ⟨xs, z⟩ <;> rw [hL3] at z <;> cases z
          · obtain ⟨p, hp, e⟩ := List.mem_map.mp hm
            rcases S4.loc p hp with z | z
            · exact hm3 (by rw [← e]; exact z)
            · have z' : H3 p.1 = Option.none := z
              rw [e, hL3] at z'
              cases z'
        refine hjt s1 H1' C1 cl1 fp1 _ Hn3 H3 _ Sb air_no _ fun b M4 Hn4 H4 p4 S4 e4 => ?_
        cases b with
        | true =>
          rw [if_pos rfl] at p4
          rw [if_pos rfl]
          intro s2 H2' C2 cl2 fp2
          refine p4 s2 H2' C2 cl2 fp2 _ Hn4 H4 _ S4 air_no _ fun y dy M5 Hn5 H5 p5 S5 e5 ry => ?_
          obtain ⟨k, rfl, hk, p5⟩ := p5
          intro s3 H3' C3 cl3 fp3
          refine p5 s3 H3' C3 cl3 fp3 _ Hn5 H5 _ S5 air_no _ fun z dz M6 Hn6 H6 p6 S6 e6 rz => ?_
          obtain ⟨S7, h7, n7, m7⟩ := out S6
          obtain ⟨tb, rfl, htb⟩ := tk_of S6.rep.sub hk (ry.mono e6)
          have e3' := (e4.trans e5).trans e6
          refine ⟨ws, k, tb, rfl, htb, h7, by rw [ra3.length, sizeLine_eq]; omega, ptD acc (tkD k) dz, putK ws k z, M6, Hn6, p6, S7.updH n7 m7 hB (fun _ e => by cases e), e3.trans e3', upd_same, (ra3.mono e3').put rz k, n7, m7⟩
        | false =>
          rw [if_neg Bool.false_ne_true] at p4
          rw [if_neg Bool.false_ne_true]
          obtain ⟨S6, h6, n6, m6⟩ := out S4
          exact ⟨acc, ws, M4, Hn4, p4, S6, e3.trans e4, h6, ra3.mono e4, n6, m6⟩
      rcases hv with ⟨rfl, rv⟩ | ⟨t, o, ht, rfl, rv⟩
      · exact run Hn2 S2 e2 rv h1 ra hn2
      · have ne : L ≠ t := fun e => by rw [e, ht] at h1; cases h1
        have ht2 := S2.rep.nn ht
        exact run _ (S2.alloc ht) (e2.trans (same_upd ht2)) rv (by rw [upd_ne ne]; exact h1) (ra.mono (same_upd ht2)) (by rw [upd_ne ne]; exact hn2)
    · have e : i = xs.length := by omega
      subst e
      have sn := same_upd (o := .dT ws) hn2
      exact .inl ⟨G.stop Hn2 H' e2 S2.rep.sub, q _ _ M2 _ H' (fin acc M2 iv) (S2.known hn2 hm2 hB h1) ((e1.trans e2).trans sn) (.dT upd_same (ra.mono sn))⟩
theorem je_dc {own : List (Str × Nat)} {Φ : D → Mem → Prop} (hu : X.A.units + 1 < cLine) (hN : X.N.Nodup) (ok : BlkOk X.N X.env.scope scope own) (h : JI X Γ M tg iter (fun xs M1 => DcAsk X Γ scope (own.map (·.2)) tg ifs kx vx Φ xs M1) Ψ) (hc : X.calm = true := by rfl) (hs : ∀ x, foldedSetIterable iter X.env x = pure x := by intro _; rfl) : JE X Γ M (.DictComp kx vx [⟨tg, iter, ifs, 0⟩] scope pos) Φ Ψ := fun B Hn H σ S A Q q pins s I => by
  refine (pe_dT (g := fun v σ H Q => Blks X scope fun Y => RunG Y tg v σ H Q) (tt := fun σ H Q => Blks X scope fun Y => RunTs Y ifs σ H Q) (tk := fun σ H Q => Blks X scope fun Y => RunE Y kx σ H Q) (tv := fun σ H Q => Blks X scope fun Y => RunE Y vx σ H Q) hu hc hN pi_run ok (fun s H C cl fp => ⟨fun pins s' σ H v u Q I r h => h s _ C cl fp pins s' u I r⟩) (fun s H C cl fp => ⟨fun pins s' σ H Q I h => h s _ C cl fp pins s' I⟩) (fun s H C cl fp => ⟨fun pins s' σ H Q I h => h s _ C cl fp pins s' I⟩) (fun s H C cl fp => ⟨fun pins s' σ H Q I h => h s _ C cl fp pins s' I⟩) hs).run pins s σ H Q I ?_
  refine dc_ask (fun i hi => ?_) h I.len S A q
  obtain ⟨p, hp, rfl⟩ := List.mem_map.mp hi
  exact (List.getElem?_eq_some_iff.mp (ok.ix p hp)).1
end
end DL
end

section
set_option Elab.async false
set_option linter.all false
set_option maxRecDepth 100000
set_option maxHeartbeats 4000000
/-! Errors of the program's own classes: made, raised, caught, read. -/
namespace DL
open PySem PySem.Spec PyProof.Rows L2

/-- an error's own __init__ that stores its arguments, in this order, under these names -/
def spXi (C : Addr) (fs : List Str) : Sp := fun vs H Q _ => ∃ (a : Addr) (ws : List V), vs = .ref a :: ws ∧ ws.length = fs.length ∧ H a = some (exo a C none) ∧ ∀ dx, H dx = none → dx ≠ a → Q .non (upd (upd H dx (exd dx (fs.zip ws).reverse)) a (exo a C (some dx)))
structure GXc (P : Program) (w : World) (K : PySem.W.Frag) (mg : Str → Option Value) (base : Heap) (k : Nat) (x : Str) (C : Addr) (fs : List Str) : Prop where
  hm : mg x = some (.ref C)
  cls : OexC K C
  rd : XfC K C
  no : ∀ f ∈ fs, PySem.W.findIn K (.ref C) f = some none
  ex : ∃ (fI : Addr) (fd : FuncData) (ps : List Str), PySem.W.findIn K (.ref C) "__init__" = some (some (.ref fI)) ∧ PySem.W.typeIn K (.ref fI) = some (.type "function") ∧ FnOk P w K mg base (L2.CX P w) k fI fd ps (spXi C fs) ∧ Binds K fd ps []
theorem upd_swap {H : Hp} {a b : Addr} {o u : HO} (h : a ≠ b) : upd (upd H a o) b u = upd (upd H b u) a o := by
  funext c
  by_cases ha : c = a
  · rw [ha, upd_ne h, upd_same, upd_same]
  · by_cases hb : c = b
    · rw [hb, upd_same, upd_ne h.symm, upd_same]
    · rw [upd_ne hb, upd_ne ha, upd_ne ha, upd_ne hb]
theorem upd_over {H : Hp} {a : Addr} {o u : HO} : upd (upd H a o) a u = upd H a u := by
  funext c
  by_cases ha : c = a
  · rw [ha, upd_same, upd_same]
  · rw [upd_ne ha, upd_ne ha, upd_ne ha]
theorem del_upd {H : Hp} {a : Addr} {o : HO} (h : H a = none) : del (upd H a o) a = H := by
  funext c
  by_cases ha : c = a
  · rw [ha, del_same, h]
  · rw [del_ne ha, upd_ne ha]
theorem made_heap {H : Hp} {a d : Addr} {o1 o2 o3 o4 : HO} (h : H a = none) (hd : H d = none) (ne : d ≠ a) : upd (del (upd (upd (upd H a o1) d o2) a o3) a) d o4 = upd H d o4 := by
  rw [upd_swap (Ne.symm ne), upd_over, del_upd (by rw [upd_ne (Ne.symm ne)]; exact h), upd_over]
section
variable {K : PySem.W.Frag} {Hn : Hp}
theorem IsF.zip : ∀ {fs : List Str} {ws : List V} {ds : List D}, IsA K Hn ws ds → IsF K Hn (fs.zip ws) (fs.zip ds)
  | [], _, _, _ => .nil
  | _ :: _, _, _, .nil => .nil
  | f :: fs, _, _, .cons a b => .cons a (IsF.zip b)
theorem IsF.append : ∀ {fs : List (Str × V)} {ds : List (Str × D)} {gs : List (Str × V)} {es : List (Str × D)}, IsF K Hn fs ds → IsF K Hn gs es → IsF K Hn (fs ++ gs) (ds ++ es)
  | _, _, _, _, .nil, h => h
  | _, _, _, _, .cons a b, h => .cons a (IsF.append b h)
theorem IsF.reverse : ∀ {fs : List (Str × V)} {ds : List (Str × D)}, IsF K Hn fs ds → IsF K Hn fs.reverse ds.reverse
  | _, _, .nil => .nil
  | _, _, .cons a b => by
    rw [List.reverse_cons, List.reverse_cons]
    exact (IsF.reverse b).append (.cons a .nil)
end
section
variable {X : Cx} {Γ : Sl} {M : Mem} {P : Post} {e : Expr} {es : List Expr} {pos p pos' np : Pos} {k : Nat}
theorem passNo {E : XK} (h : ∀ c d H, ¬ E c d H) : Passes (L2.CX X.prog X.w) X E := fun _ _ _ _ _ _ _ ⟨_, _, H', c, d, _, _, _, _, _, _, _, z⟩ => (h c d H' z).elim
/-- raise C(e, ..) -/
theorem js_raise {x : Str} {C : Addr} {fs : List Str} (G : GXc X.prog X.w X.K X.mg X.base k x C fs) (hr : Room (k + 1) X.A) (h : JA X Γ M (e :: es) (fun ds M1 => ds.length = fs.length ∧ ds.length ≤ 900 ∧ P.ex (C, (fs.zip ds).reverse) Γ M1) (fun x M1 => P.ex x Γ M1)) (hc : X.calm = true := by rfl) (hg : Gl X x := by rfl) (hdb : (x == ("__debug__" : Str)) = false := by decide)
    (he : starEach (e :: es) X.env = (false, eval e X.env) :: starEach es X.env := by rfl) (hpl : (backTo pos (starEach es X.env)).any (·.1) = false := by rfl) : JS X Γ M (.Raise (some (.Call (.Name x p) (e :: es) [] pos)) none pos') P := fun B Hn H σ S De ok => by
  obtain ⟨fI, fd, ps, iC, tI, F, hb⟩ := G.ex
  refine run_ps (ps_raise hc takes_air (pmk_oex G.cls iC tI F hr hb .nil (passNo fun _ _ _ z => z) hg G.hm pa_run hdb he hpl)) ?_
  refine h B Hn H σ S ok.air _ fun vs ds M1 Hn1 H1 p S1 e1 r1 => ?_
  obtain ⟨hl, hz, p⟩ := p
  have n := r1.length
  refine ⟨by omega, fun a ha => ⟨a, vs, by rw [List.append_nil], by omega, upd_same, fun dx hdx hne => ?_⟩⟩
  have hdx1 : H1 dx = none := by rw [upd_ne hne] at hdx; exact hdx
  refine ⟨rfl, dx, _, upd_same, by rw [upd_ne hne, upd_same], hdx1, ?_⟩
  rw [made_heap ha hdx1 hne]
  have sn := same_upd (o := .xd (fs.zip vs).reverse) (S1.rep.nn hdx1)
  exact ok.ex (C, (fs.zip ds).reverse) Γ M1 _ _ σ (.ref C) (some dx) p (S1.alloc hdx1) ⟨rfl, .inr ⟨dx, _, rfl, upd_same, (IsF.zip (r1.mono sn)).reverse⟩⟩
end
/-- self.f = y, .. at two fields -/
theorem ok_xi2 {Pg : Program} {w : World} {K : PySem.W.Frag} {mg : Str → Option Value} {base : Heap} {C fI : Addr} {fd : FuncData} {x qual : Str} {st : Stmt} {a b f1 f2 : Str} {q1 q2 q3 q4 r1 r2 r3 r4 : Pos} (F : Fun K x qual st fI fd) (Sc : FnScope ["self", a, b] ["self", a, b] (defScope st)) (T : OexC K C) (h1 : PySem.W.findIn K (.ref C) f1 = some none) (h2 : PySem.W.findIn K (.ref C) f2 = some none)
    (hb : defBody st = [.Assign [.Attribute (.Name "self" q1) f1 q2] (.Name a q3) q4, .Assign [.Attribute (.Name "self" r1) f2 r2] (.Name b r3) r4]) (l0 : (defScope st).names.lookup ("self" : Str) = some NameKind.local) (l1 : (defScope st).names.lookup a = some NameKind.local) (l2 : (defScope st).names.lookup b = some NameKind.local)
    (d1 : (a == ("__debug__" : Str)) = false) (d2 : (b == ("__debug__" : Str)) = false) (c1 : (a == ("__classdict__" : Str)) = false) (c2 : (b == ("__classdict__" : Str)) = false)
    (s1 : ∀ env, swapsWith (.Name a q3) (some (.Attribute (.Name "self" q1) f1 q2)) q4.line env = pure false) (s2 : ∀ env, swapsWith (.Name b r3) (some (.Attribute (.Name "self" r1) f2 r2)) r4.line env = pure false) : FnOk Pg w K mg base (L2.CX Pg w) 1 fI fd ["self", a, b] (spXi C [f1, f2]) := by
  refine F.okX Sc (fun vs H Q E h => ?_) (fun cdv A outer s H vs Q E hr h => ?_)
  · obtain ⟨t, ws, rfl, hl, _⟩ := h
    match ws, hl with
    | [_, _], _ => rfl
  · obtain ⟨t, ws, rfl, hl, ht, q⟩ := h
    match ws, hl with
    | [u, v], _ =>
      rw [hb]
      refine ⟨_, pss_cons (ps_ost (pe_var (i := 0) rfl (Or.inl l0) (by decide) (by decide)) (pe_var (i := 1) rfl (Or.inl l1) d1 c1) (s1 _)) (pss_one (ps_ost (pe_var (i := 0) rfl (Or.inl l0) (by decide) (by decide)) (pe_var (i := 2) rfl (Or.inl l2) d2 c2) (s2 _))), ?_⟩
      refine ⟨_, rfl, _, rfl, t, C, rfl, T, h1, .inl ⟨ht, fun dx hdx hne => ?_⟩⟩
      refine ⟨_, rfl, _, rfl, t, C, rfl, T, h2, .inr ⟨dx, _, upd_same, by rw [upd_ne hne, upd_same], by show 1 ≤ 900; decide, ?_⟩⟩
      have z := q dx hdx hne
      rw [upd_swap (Ne.symm hne), upd_over]
      exact z
section
variable {X : Cx} {Γ : Sl} {M : Mem} {P : Post} {e : Expr} {es : List Expr} {pos p pos' np : Pos} {k : Nat}
theorem SR.unset {K : PySem.W.Frag} {B : Bas} {M : Mem} {Γ : Sl} {Hn H : Hp} {σ : L2.St} {i : Nat} (S : SR K B M Γ Hn H σ) : SR K B M (Γ.set i Option.none) Hn H (σ.set i Option.none) := S.slots fun j d e => by
  by_cases hj : i = j
  · subst hj
    by_cases hl : i < Γ.length
    · rw [List.getElem?_set_self hl] at e
      cases e
    · rw [List.getElem?_eq_none (by rw [List.length_set]; omega)] at e
      cases e
  · rw [List.getElem?_set_ne hj] at e
    rw [List.getElem?_set_ne hj]
    exact S.sl j d e
/-- what the suite of a handler owes: its slot i is empty behind it -/
abbrev Post.suite (P : Post) (i : Nat) : Post := { nx := fun Γ M => P.nx (Γ.set i none) M, bk := fun Γ M => P.bk (Γ.set i none) M, ct := fun Γ M => P.ct (Γ.set i none) M, rt := P.rt, ex := fun _ _ _ => False }
/-- try: body; except x as n: suite -/
theorem js_try_as (i : Nat) {x n : Str} {c : Value} {body suite : List Stmt} {b0 : Stmt} (hN : X.N.Nodup) (hc : Names X x c)
    (h : ∀ pn xe, PassesOwn (model X.prog X.w) X.A X.env xe → JSs (X.tr pn xe) Γ M body { P with ex := fun y Γ1 M1 => ∃ b, PySem.W.exmOne X.K (.ref y.1) c = some b ∧ (b = true → y.2 ≠ [] ∧ ∀ a dd oe pn', Zc (.ref y.1) (some dd) oe → (∃ vs, oe.data = .fields vs) → JSs (X.suite a ((a, oe) :: pn')) (Γ1.set i (some (.exc a dd y.1 y.2))) M1 (b0 :: suite) (P.suite i)) ∧ (b = false → P.ex y Γ1 M1) })
    (hs : X.stack = X.env :: X.outer := by rfl) (hf : X.env.frame = some X.env.locals := by rfl) (hi : X.N[i]? = some n := by rfl) (hln : X.env.kindOf n = some .local := by rfl) : JS X Γ M (.Try body [.ExceptHandler (some (.Name x np)) (some n) (b0 :: suite) pos'] [] [] pos) P := fun B Hn H σ S De ok => by
  refine run_ps (ps_try_as (i := i) (c := c) (tb := fun W De σ H => ∀ pn xe, Takes (X.tr pn xe) W → PassesOwn (model X.prog X.w) X.A X.env xe → RunSs (X.tr pn xe) body σ H De)
    (ts := fun a cls d De σ H => ∀ oe pn, Zc cls d oe → (∃ vs, oe.data = .fields vs) → RunSs (X.suite a ((a, oe) :: pn)) (b0 :: suite) σ H De) (Wout := fun cls d σ H => AirOk X cls d σ H) hs hf hN hi hln hc takes_air
    (fun W pn xe tk po => ⟨fun pins s σ H De I h => h pn xe tk po pins s I⟩) (fun a oe cls d pn hz hf => ⟨fun pins s σ H De I h => h oe pn hz hf pins s I⟩)) ?_
  intro pn xe tk po
  refine h pn xe po B Hn H σ S De ⟨ok.nx, ok.bk, ok.ct, ok.rt, fun y Γ1 M1 Hn1 H1 σ1 cls dd hy S1 ri => ?_⟩
  refine air_of tk ?_
  obtain ⟨b, hb, ht, hfa⟩ := hy
  obtain ⟨rfl, hd⟩ := ri
  refine ⟨b, hb, fun e a ha oe pn' hz hfs => ?_, fun e => ok.ex y Γ1 M1 Hn1 H1 σ1 _ dd (hfa e) S1 ⟨rfl, hd⟩⟩
  obtain ⟨hne, ht⟩ := ht e
  rcases hd with ⟨_, z⟩ | ⟨d, vs, rfl, hx, rf⟩
  · exact (hne z).elim
  · intro pins s I
    have hlen : i < σ1.length := by
      have := len_of I (x := n) hi
      rwa [List.length_set] at this
    exact ht a d oe pn' hz hfs B Hn1 H1 _ (S1.set hlen (.exc hx rf)) { nx := fun σ' H' => De.nx (σ'.set i none) H', rt := De.rt, bk := fun σ' H' => De.bk (σ'.set i none) H', ct := fun σ' H' => De.ct (σ'.set i none) H' } ⟨fun Γ2 M2 Hn2 H2 σ2 p S2 => ok.nx _ _ _ _ _ p S2.unset, fun Γ2 M2 Hn2 H2 σ2 p S2 => ok.bk _ _ _ _ _ p S2.unset, fun Γ2 M2 Hn2 H2 σ2 p S2 => ok.ct _ _ _ _ (σ2.set i none) p (S2.unset (i := i)), ok.rt, fun _ _ _ _ _ _ _ _ z => z.elim⟩ pins s I
/-- error.f, in the suite -/
theorem je_xf {a dd : Addr} {oe : Obj} {C : Addr} {pn : List (Addr × Obj)} {f : Str} {Φ : D → Mem → Prop} {Ψ : XP} (T : XfC X.K C) (hno : PySem.W.findIn X.K (.ref C) f = some none) (hz : Zc (.ref C) (some dd) oe) (hf : ∃ vs, oe.data = .fields vs)
    (h : JE (X.suite a ((a, oe) :: pn)) Γ M e (fun d M1 => ∃ fs y, d = .exc a dd C fs ∧ fs.lookup f = some y ∧ Φ y M1) Ψ) (hb : attributeBase e f X.env (eval e X.env) = eval e X.env := by rfl) : JE (X.suite a ((a, oe) :: pn)) Γ M (.Attribute e f pos) Φ Ψ := fun B Hn H σ S A Q q => by
  refine run_pe (pe_xf (X := X) (a := a) (C := C) (cls := .ref C) (d := some dd) T hno hz hf pe_run hb) ?_
  refine h B Hn H σ S A _ fun v d M1 Hn1 H1 p S1 e1 r1 => ?_
  obtain ⟨fs, y, rfl, hl, p⟩ := p
  cases r1 with
  | @exc _ _ _ gs _ hx rf =>
    obtain ⟨u, hu, ru⟩ := rf.get hl
    exact ⟨rfl, rfl, dd, gs, u, rfl, S1.rep.sub _ _ hx, hu, q _ _ _ _ _ p S1 e1 ru⟩
end
end DL
end

section
set_option Elab.async false
set_option linter.all false
set_option maxRecDepth 100000
set_option maxHeartbeats 4000000
/-! Small helpers of the walks. -/
namespace DL
open PySem PySem.Spec PyProof.Rows L2

/-- isinstance of what is no instance, as a Bool -/
def isT (m : String) (d : D) : Bool := match tyN d with
  | some n => n == m || (n == "bool" && m == "int")
  | none => false
theorem isT_of {m : String} {d : D} {n : String} (hm : m ∈ ["str", "int", "bool", "tuple", "list", "dict"]) (h : tyN d = some n) : kitB n m = some (isT m d) := by
  have key : ∀ m ∈ ["str", "int", "bool", "tuple", "list", "dict"], ∀ n ∈ ["NoneType", "bool", "int", "str", "tuple", "list", "dict"], kitB n m = some (n == m || (n == "bool" && m == "int")) := by decide +kernel
  unfold isT
  rw [h]
  refine key m hm n ?_
  cases d <;> simp [tyN] at h <;> subst h <;> decide
/-- the built-ins' names are no names of the module -/
structure Bn (mg : Str → Option Value) : Prop where
  isinstance : mg "isinstance" = none
  len : mg "len" = none
  all : mg "all" = none
  any : mg "any" = none
  range : mg "range" = none
  sorted : mg "sorted" = none
  zip : mg "zip" = none
  min : mg "min" = none
  str : mg "str" = none
  int : mg "int" = none
  bool : mg "bool" = none
  list : mg "list" = none
  tuple : mg "tuple" = none
  dict : mg "dict" = none
section
variable {X : Cx} {Γ : Sl} {M : Mem} {Φ : D → Mem → Prop} {Ψ : XP} {a b c e o : Expr} {es : List Expr} {pos p p2 pos2 : Pos}
theorem je_isi {x : Str} {T : String} (m1 : X.mg "isinstance" = none) (m2 : X.mg x = none) (hv : bootBuiltins x = some (.type T)) (hT : T ∈ ["str", "int", "bool", "tuple", "list", "dict"]) (h : JE X Γ M e (fun d M1 => ∃ n, tyN d = some n ∧ Φ (.bl (isT T d)) M1) Ψ)
    (hg : Gl X "isinstance" := by rfl) (hg2 : Gl X x := by rfl) (hn : x ≠ "__name__" := by decide) (hdb : (x == ("__debug__" : Str)) = false := by decide)
    (he : starEach [e, .Name x p2] X.env = (false, eval e X.env) :: starEach [.Name x p2] X.env := by rfl) (he2 : starEach [.Name x p2] X.env = (false, eval (.Name x p2) X.env) :: starEach [] X.env := by rfl) (hpl : (backTo pos (starEach [.Name x p2] X.env)).any (·.1) = false := by rfl) :
    JE X Γ M (.Call (.Name "isinstance" p) [e, .Name x p2] [] pos) Φ Ψ := by
  refine je_callB m1 boot_isinstance (ja_cons (h.imp fun d M' ⟨n, hn', h⟩ => ?_) he) hg (by decide) (by decide) he hpl
  exact ja_cons (je_bltn (v := .ty T) m2 hv rfl (ja_nil (cd_isi hn' (isT_of hT hn') h)) hg2 hn hdb) he2
theorem je_isiC' {x : Str} {C : Addr} (m1 : X.mg "isinstance" = none) (m2 : X.mg x = some (.ref C)) (h : JE X Γ M e (fun d M1 => ∃ b, ((∃ n, tyN d = some n ∧ PySem.W.kitOne X.K (.type n) (.ref C) = some b) ∨ ∃ C' fs, d = .ins C' fs ∧ IsiC X.K C' ∧ PySem.W.kitOne X.K (.ref C') (.ref C) = some b) ∧ Φ (.bl b) M1) Ψ)
    (hg : Gl X "isinstance" := by rfl) (hg2 : Gl X x := by rfl) (hdb : (x == ("__debug__" : Str)) = false := by decide)
    (he : starEach [e, .Name x p2] X.env = (false, eval e X.env) :: starEach [.Name x p2] X.env := by rfl) (he2 : starEach [.Name x p2] X.env = (false, eval (.Name x p2) X.env) :: starEach [] X.env := by rfl) (hpl : (backTo pos (starEach [.Name x p2] X.env)).any (·.1) = false := by rfl) :
    JE X Γ M (.Call (.Name "isinstance" p) [e, .Name x p2] [] pos) Φ Ψ := by
  refine je_callB m1 boot_isinstance (ja_cons (h.imp fun d M' ⟨b, hb, h⟩ => ?_) he) hg (by decide) (by decide) he hpl
  refine ja_cons (je_glob (v := .ref C) (d := .raw (.ref C)) m2 rfl (fun _ => .raw _) (ja_nil ?_) hg2 hdb) he2
  rcases hb with ⟨n, hn, hb⟩ | ⟨C', fs, rfl, T, hb⟩
  · exact cd_isiC hn hb h
  · exact cd_isiI T hb h
theorem je_len (m1 : X.mg "len" = none) (h : JE X Γ M e (fun d M1 => ∃ n : Nat, ((∃ xs, d = .lst xs ∧ n = xs.length) ∨ (∃ xs, d = .tup xs ∧ n = xs.length) ∨ (∃ x : Str, d = .str x ∧ x.length ≤ 1000000 ∧ n = x.length) ∨ (∃ xs, d = .dK xs ∧ n = xs.length) ∨ (∃ xs, d = .dT xs ∧ n = xs.length) ∨ ∃ (k : Nat) (t : Addr) (xs : List D), d = .raw (.ref t) ∧ M1[k]? = some (t, .lst xs) ∧ n = xs.length) ∧ Φ (.int n) M1) Ψ)
    (hg : Gl X "len" := by rfl) (he : starEach [e] X.env = (false, eval e X.env) :: starEach [] X.env := by rfl) (hpl : (backTo pos (starEach [] X.env)).any (·.1) = false := by rfl) : JE X Γ M (.Call (.Name "len" p) [e] [] pos) Φ Ψ := by
  refine je_callB m1 boot_len (ja_cons (h.imp fun d M' ⟨n, hd, h⟩ => ja_nil ?_) he) hg (by decide) (by decide) he hpl
  rcases hd with ⟨xs, rfl, rfl⟩ | ⟨xs, rfl, rfl⟩ | ⟨xs, rfl, hl, rfl⟩ | ⟨xs, rfl, rfl⟩ | ⟨xs, rfl, rfl⟩ | ⟨k, t, xs, rfl, hk, rfl⟩
  · exact cd_lenL h
  · exact cd_lenT h
  · exact cd_lenS hl h
  · exact cd_lenDK h
  · exact cd_lenDT h
  · exact cd_lenC k hk h
/-- .. as a statement's test, a Bool -/
theorem jt_bl (h : JE X Γ M a (fun d M1 => ∃ b, d = .bl b ∧ Φ (.bl b) M1) Ψ) (he : ∀ whole, isTrue a X.env whole = (do let v ← whole; standAt a.pos; holding [v] (truthy v)) := by intro _; rfl) : JT X Γ M a (fun b M1 => Φ (.bl b) M1) Ψ := jt_val (h.imp fun d M1 h => h) he
theorem ite_t {c : Bool} {A B : Prop} (hc : c = true) (h : A) : if c = true then A else B := by
  rw [if_pos hc]
  exact h
theorem ite_f {c : Bool} {A B : Prop} (hc : c = false) (h : B) : if c = true then A else B := by
  rw [hc, if_neg Bool.false_ne_true]
  exact h
theorem ite_2 {c : Bool} {A B : Prop} (h1 : c = true → A) (h2 : c = false → B) : if c = true then A else B := by
  cases c with
  | true => exact ite_t rfl (h1 rfl)
  | false => exact ite_f rfl (h2 rfl)
end
end DL
end

section
set_option Elab.async false
set_option linter.all false
set_option maxRecDepth 100000
set_option maxHeartbeats 4000000
/-! List displays that change nothing. -/
namespace DL
open PySem PySem.Spec PyProof.Rows L2
section
variable {X : Cx} {Γ : Sl} {M : Mem} {Φ : D → Mem → Prop} {Ψ : XP} {e : Expr} {pos p : Pos}
theorem je_isiP {x1 x2 : Str} {T1 T2 : String} {p1 p2 pt : Pos} {kt} (hm : X.mg "isinstance" = none) (hm1 : X.mg x1 = none) (hv1 : bootBuiltins x1 = some (.type T1)) (hm2 : X.mg x2 = none) (hv2 : bootBuiltins x2 = some (.type T2)) (hT1 : T1 ∈ ["str", "int", "bool", "tuple", "list", "dict"]) (hT2 : T2 ∈ ["str", "int", "bool", "tuple", "list", "dict"])
    (h : JE X Γ M e (fun d M1 => ∃ n, tyN d = some n ∧ Φ (.bl (isT T1 d || isT T2 d)) M1) Ψ) (hg : Gl X "isinstance" := by rfl) (hg1 : Gl X x1 := by rfl) (hg2 : Gl X x2 := by rfl)
    (hn1 : x1 ≠ "__name__" := by decide) (hdb1 : (x1 == ("__debug__" : Str)) = false := by decide) (hn2 : x2 ≠ "__name__" := by decide) (hdb2 : (x2 == ("__debug__" : Str)) = false := by decide)
    (hs1 : starEach [.Name x1 p1, .Name x2 p2] X.env = (false, eval (.Name x1 p1) X.env) :: starEach [.Name x2 p2] X.env := by rfl) (hs2 : starEach [.Name x2 p2] X.env = (false, eval (.Name x2 p2) X.env) :: starEach [] X.env := by rfl)
    (hs3 : starEach [e, .Tuple [.Name x1 p1, .Name x2 p2] kt pt] X.env = (false, eval e X.env) :: starEach [.Tuple [.Name x1 p1, .Name x2 p2] kt pt] X.env := by rfl)
    (hs4 : starEach [.Tuple [.Name x1 p1, .Name x2 p2] kt pt] X.env = (false, eval (.Tuple [.Name x1 p1, .Name x2 p2] kt pt) X.env) :: starEach [] X.env := by rfl)
    (hpl : (backTo pos (starEach [.Tuple [.Name x1 p1, .Name x2 p2] kt pt] X.env)).any (·.1) = false := by rfl) : JE X Γ M (.Call (.Name "isinstance" p) [e, .Tuple [.Name x1 p1, .Name x2 p2] kt pt] [] pos) Φ Ψ := by
  refine je_isi2 hm hm1 hv1 hm2 hv2 (h.imp fun d M' ⟨n, hn, h⟩ => ⟨n, _, hn, ?_, h⟩) hg hg1 hg2 hn1 hdb1 hn2 hdb2 hs1 hs2 hs3 hs4 hpl
  show (kitB n T1).bind _ = _
  rw [isT_of hT1 hn]
  show (if isT T1 d = true then some true else (kitB n T2).bind _) = _
  rw [isT_of hT2 hn]
  cases isT T1 d <;> cases isT T2 d <;> rfl
end
theorem u1 {k : Nat} {A : Around} (r : Room k A) : A.units + 1 < cLine := by
  have := r.un
  omega
theorem u65 {k : Nat} {A : Around} (r : Room k A) : A.units + 65 < cLine := by
  have := r.un
  omega
/-- a def that only tells -/
def pureS (dom : List D → Prop) (f : List D → D) : DL.Spec := fun ds M Φ _ => M = [] ∧ dom ds ∧ Φ (f ds) []
section
variable {X : Cx} {Γ : Sl} {M : Mem} {Φ : D → Mem → Prop} {Ψ : XP} {elt tg iter c : Expr} {scope : Scope} {pos spos : Pos}
theorem take_next {α : Type} : ∀ {l : List α} {i : Nat} {x : α}, l[i]? = some x → l.take (i + 1) = l.take i ++ [x]
  | [], i, x, h => by simp at h
  | a :: l, 0, x, h => by
    cases h
    rfl
  | a :: l, i + 1, x, h => by
    show a :: l.take (i + 1) = a :: l.take i ++ [x]
    rw [take_next (l := l) (i := i) (x := x) h]
    rfl
theorem lc_map {vs : List Nat} (f : D → D) {xs : List D} {M1 : Mem} (hl : xs.length ≤ 1000000) (hq : Φ (.lst (xs.map f)) M1) (h : ∀ x ∈ xs, ∃ is ds, (∀ i ∈ is, i ∈ vs) ∧ Blks X scope (fun Y => JC Y tg x is ds) ∧ Blks X scope fun Z => JE Z (setD (wipeD Γ vs) is ds) M1 elt (fun d M4 => d = f x ∧ M4 = M1) noX) : LcAsk X Γ scope vs tg [] elt Φ xs M1 := by
  refine ⟨fun i acc M2 => acc = (xs.take i).map f ∧ M2 = M1, ⟨rfl, rfl⟩, fun acc M2 ⟨h1, h2⟩ => ?_, fun i x acc M2 hx ⟨h1, h2⟩ => ?_⟩
  · rw [List.take_length] at h1
    rw [h1, h2]
    exact hq
  · subst h1 h2
    refine ⟨by rw [List.length_map, List.length_take]; omega, ?_⟩
    obtain ⟨is, ds, h1, h2, h3⟩ := h x (List.mem_of_getElem? hx)
    refine ⟨is, ds, h1, h2, fun s H C cl fp => jts_nil (ite_t rfl fun s H C cl fp => (h3 s H C cl fp).imp fun d M4 ⟨e1, e2⟩ => ⟨?_, e2⟩)⟩
    rw [e1, take_next hx, List.map_append]
    rfl
theorem lc_fil {vs : List Nat} (p : D → Bool) (f : D → D) {xs : List D} {M1 : Mem} (hl : xs.length ≤ 1000000) (hq : Φ (.lst ((xs.filter p).map f)) M1) (h : ∀ x ∈ xs, ∃ is ds, (∀ i ∈ is, i ∈ vs) ∧ Blks X scope (fun Y => JC Y tg x is ds) ∧ Blks X scope fun Z => JT Z (setD (wipeD Γ vs) is ds) M1 c (fun b M4 => b = p x ∧ M4 = M1 ∧ Blks X scope fun Z => JE Z (setD (wipeD Γ vs) is ds) M1 elt (fun d M4 => d = f x ∧ M4 = M1) noX) noX) : LcAsk X Γ scope vs tg [c] elt Φ xs M1 := by
  refine ⟨fun i acc M2 => acc = ((xs.take i).filter p).map f ∧ M2 = M1, ⟨rfl, rfl⟩, fun acc M2 ⟨h1, h2⟩ => ?_, fun i x acc M2 hx ⟨h1, h2⟩ => ?_⟩
  · rw [List.take_length] at h1
    rw [h1, h2]
    exact hq
  · subst h1 h2
    refine ⟨by
      have := List.length_filter_le p (xs.take i)
      rw [List.length_take] at this
      rw [List.length_map]
      omega, ?_⟩
    obtain ⟨is, ds, h1, h2, h3⟩ := h x (List.mem_of_getElem? hx)
    refine ⟨is, ds, h1, h2, fun s H C cl fp => jts_one ?_⟩
    intro B Hn H' σ S A Q q
    refine h3 s H C cl fp B Hn H' σ S A Q fun b M' Hn' H' ⟨e1, e2, h4⟩ => q b M' Hn' H' ?_
    subst e1 e2
    refine ite_2 (fun e => ?_) fun e => ?_
    · intro s H C cl fp
      refine (h4 s H C cl fp).imp fun d M4 ⟨e1, e2⟩ => ⟨?_, e2⟩
      rw [e1, take_next hx, List.filter_append, List.map_append, List.filter_cons_of_pos e]
      rfl
    · refine ⟨?_, rfl⟩
      rw [take_next hx, List.filter_append, List.filter_cons_of_neg (by rw [e]; decide), List.filter_nil, List.append_nil]
/-- 'it is so' for a test without effects -/
theorem JT.imp {Φb Φb' : Bool → Mem → Prop} (h : JT X Γ M c Φb Ψ) (i : ∀ b M', Φb b M' → Φb' b M') : JT X Γ M c Φb' Ψ := fun B Hn H σ S A Q q => h B Hn H σ S A Q fun b M' Hn' H' p => q b M' Hn' H' (i b M' p)
theorem blk_ok {N : List Str} {sc scope : Scope} {own : List (Str × Nat)} (h1 : scope.kind = .function := by rfl) (h2 : (scope.names.all fun y => scope.names.lookup y.1 == some y.2) = true := by kernel_rfl) (h3 : (own.all fun p => N[p.2]? == some p.1) = true := by kernel_rfl)
    (h4 : (scope.names.all fun y => !(y.2 == NameKind.free) || (sc.names.lookup y.1 == some NameKind.cell || sc.names.lookup y.1 == some NameKind.free)) = true := by kernel_rfl)
    (h5 : (scope.names.all fun y => !(y.2 == NameKind.local || y.2 == NameKind.cell) || ((own.map (·.1)).contains y.1 || !N.contains y.1)) = true := by kernel_rfl) : BlkOk N sc scope own := by
  refine ⟨h1, fun y hy => ?_, fun p hp => ?_, fun y hy e => ?_, fun y hy e => ?_⟩
  · simpa using List.all_eq_true.mp h2 y hy
  · simpa using List.all_eq_true.mp h3 p hp
  · have z := List.all_eq_true.mp h4 y hy
    simp only [e, Bool.or_eq_true, Bool.not_eq_true', beq_iff_eq] at z
    rcases z with z | z
    · exact absurd z (by decide)
    · exact z
  · have z := List.all_eq_true.mp h5 y hy
    have q : (y.2 == NameKind.local || y.2 == NameKind.cell) = true := by
      rcases e with e | e <;> rw [e] <;> decide
    rw [q] at z
    simp only [Bool.not_true, Bool.false_or, Bool.or_eq_true, Bool.not_eq_true', List.contains_iff_mem] at z
    rcases z with z | z
    · exact .inl z
    · refine .inr fun m => ?_
      rw [List.contains_iff_mem.mpr m] at z
      cases z
end
end DL
end

section
set_option Elab.async false
set_option linter.all false
set_option maxRecDepth 100000
set_option maxHeartbeats 4000000
/-! == and len of an instance whose class has its own. -/
namespace DL
open PySem PySem.Spec PyProof.Rows L2
section
variable {X : Cx} {k : Nat} {C f : Addr} {fd : FuncData} {ps : List Str} {sp : Sp}
def Kind2 (X : Cx) (C : Addr) (H : Hp) (y : V) : Prop := (∃ b dy gs, y = .ref b ∧ H b = some (.ins C dy gs)) ∨ (∃ b ys, y = .ref b ∧ SqT X.K H b ys ∧ PySem.W.notFirst X.K C (.type "tuple") = true)
def rOwnEq (X : Cx) (C : Addr) (sp : Sp) : R2 := fun x y H Q => ∃ a dx fs, x = .ref a ∧ H a = some (.ins C dx fs) ∧ Kind2 X C H y ∧ sp [x, y] H (fun v H' => (∃ b, v = .bl b) ∧ Q v H') fun _ _ _ => False
theorem op_ownEq (F : FnOk X.prog X.w X.K X.mg X.base (L2.CX X.prog X.w) k f fd ps sp) (hm : Meth X.K C "__eq__" f) (hb : Binds X.K fd ps []) (hr : Room k X.A) : OpR X (compareOp .Eq) (rOwnEq X C sp) := by
  intro pins s σ H x y v u Q I rx ry h
  obtain ⟨a, dx, fs, rfl, ha, hk, hsp⟩ := h
  cases rx
  obtain ⟨mA, J, _⟩ := ins_get I.hok ha
  obtain ⟨od, J, _⟩ := J.look
  obtain ⟨m, hF⟩ := I.fr
  have hty : ∃ tb, PySem.W.Looks (model X.prog X.w) s.heap (typeOf u) tb ∧ PySem.W.notFirst X.K C tb = true := by
    rcases hk with ⟨b, dy, gs, rfl, hb'⟩ | ⟨b, ys, rfl, hq, hn⟩
    · cases ry
      obtain ⟨mB, J', _⟩ := ins_get I.hok hb'
      obtain ⟨od', J', _⟩ := J'.look
      exact ⟨_, J'.type, by simp [PySem.W.notFirst]⟩
    · cases ry
      obtain ⟨its, _, ⟨o, e, c, _⟩, _⟩ := I.tuple hq
      exact ⟨.type "tuple", c ▸ (PySem.W.Looks.ld e).andThen .now, hn⟩
  obtain ⟨tb, lk, hn⟩ := hty
  show wpAny (model X.prog X.w) X.A (richCompare .Eq (.ref a) u) (EP X pins σ Q) X.xe s
  refine PySem.W.cmp_K (op := .Eq) (tb := tb) hr.units0 hF I.ok.mod.kin J lk hn hm.at_ hm.fn ?_
  refine wpAny_mono (run_fnSD (E := fun _ _ _ _ => False) (us := [.ref a, u]) (vs := [.ref a, y]) (dvs := []) (ds := []) (Q := fun v H' => (∃ b, v = .bl b) ∧ Q v H') F hr hb .nil (fun pins H s e s' _ ⟨_, _, _, _, _, _, _, _, _, _, _, _, z⟩ => z.elim) I (.cons rfl (.cons ry .nil)) (by simpa using hsp)) (fun r s' z => ?_) fun _ _ z => z
  obtain ⟨v, H', I', rv, ⟨b, rfl⟩, q⟩ := z
  cases rv
  exact ⟨.bl b, H', I', rfl, q⟩
def rOwnLen (C : Addr) (sp : Sp) : List V → Hp → VK → Prop := fun xs H Q => ∃ a dx fs, xs = [.ref a] ∧ H a = some (.ins C dx fs) ∧ sp [.ref a] H (fun v H' => (∃ n : Int, v = .int n ∧ 0 ≤ n ∧ n < 2 ^ 63) ∧ Q v H') fun _ _ _ => False
theorem call_ownLen (F : FnOk X.prog X.w X.K X.mg X.base (L2.CX X.prog X.w) k f fd ps sp) (hm : Meth X.K C "__len__" f) (hb : Binds X.K fd ps []) (hr : Room (k + 1) X.A) : CallR X (.builtin "len") (rOwnLen C sp) := by
  intro pins s σ H xs us Q I rr h
  obtain ⟨a, dx, fs, rfl, ha, hsp⟩ := h
  cases rr with
  | cons r1 rr =>
    cases rr
    cases r1
    obtain ⟨mA, J, _⟩ := ins_get I.hok ha
    obtain ⟨od, J, _⟩ := J.look
    obtain ⟨m, hF⟩ := I.fr
    refine PySem.W.len_K hF I.ok.mod.kin J hm.at_ hm.fn ?_
    have e0 : Env0 X.prog X.w X.K X.mg X.base X.A.in1 X.stack s H := by
      have e := I.env0
      exact ⟨e.frames, e.mod, e.bs, e.bsz, e.funs, e.frf, e.hok, e.bare⟩
    have hl := F.len _ _ _ _ hsp
    refine wpAny_call (codeAny_mono (F.run X.A.in1 X.stack s H ⟨[.ref a], []⟩ [.ref a] [.ref a] _ (fun _ _ _ => False) hr.in1 e0 (by
      have := hb s [.ref a] I.kIn (by simpa using hl)
      simpa using this) (.cons rfl .nil) hsp) fun r s' hq => ?_)
    cases r with
    | error e =>
      obtain ⟨_, _, _, _, _, _, _, _, _, _, _, _, z⟩ := hq
      exact z.elim
    | ok fl =>
      cases fl with
      | ret w =>
        obtain ⟨z, H', I', rz, ⟨n, rfl, n0, n1⟩, q⟩ := I.after hq
        obtain ⟨t, rfl⟩ := rz
        refine ⟨⟨n0, n1⟩, .int n, H', I'.tok _, ⟨_, rfl⟩, q⟩
      | next => exact False.elim hq
      | brk => exact False.elim hq
      | cont => exact False.elim hq
end
section
variable {X : Cx} {Γ : Sl} {M : Mem} {Φ : D → Mem → Prop} {Ψ : XP} {k : Nat} {C : Addr} {spec : DL.Spec}
theorem no_dvs {us : List Value} {dvs : List V} (hv : Vals dvs us) (hd : ∀ Hn, IsA X.K Hn dvs []) : us = [] := by
  cases hd (fun _ => none) with
  | nil => cases hv; rfl
/-- x == y by the class's own, y a tuple or such an instance -/
theorem opd_ownEq {x y : D} (G : GMe X.prog X.w X.K X.mg X.base k C "__eq__" [] spec) (hr : Room k X.A) (hx : InsAt M C "__eq__" x) (hy : (∃ fs, y = .ins C fs) ∨ ((∃ ys, y = .tup ys) ∧ PySem.W.notFirst X.K C (.type "tuple") = true)) (u : Use spec [x, y] M (fun d M' => (∃ b, d = .bl b) ∧ Φ d M') noX) : OpD X (compareOp .Eq) x y M Φ := fun B Γ Hn H σ v w Q S rx ry q => by
  obtain ⟨f, fd, ps, us, dvs, F, hm, hb, hv, hd⟩ := G.ex
  obtain rfl := no_dvs hv hd
  refine ⟨_, op_ownEq F hm hb hr, ?_⟩
  obtain ⟨a, dx, fs, rfl, ha, _⟩ := hx.at S.rep rx
  refine ⟨a, dx, fs, rfl, ha, ?_, ?_⟩
  · rcases hy with ⟨fs, rfl⟩ | ⟨⟨ys, rfl⟩, hn⟩
    · cases ry with
      | @ins b _ dy gs _ h1 _ => exact .inl ⟨b, dy, gs, rfl, S.rep.sub _ _ h1⟩
    · cases ry with
      | @tup b ws _ h1 _ => exact .inr ⟨b, ws, rfl, same_t S.rep.sub h1, hn⟩
  · cases u with
    | none h =>
      refine ⟨[x, y], [], Hn, _, _, .cons rx (.cons ry .nil), S.rep.part (fun p hp => by simp at hp) (by simp), h, fun v d M' Hn' H' p R st e rv => ?_, fun x M' Hn' H' cls dd p R st e ri => p.elim⟩
      obtain ⟨⟨b, rfl⟩, p⟩ := p
      have S' := S.call (M0 := []) (M' := M) (fun p hp => by simp at hp) R st e rfl fun p hp => .inr ⟨hp, by simp⟩
      cases rv
      exact ⟨⟨b, rfl⟩, q _ _ _ Hn' H' p S' st.nn (.bl b)⟩
    | one j t c hk h =>
      have hm : ∀ p ∈ [(t, c)], p ∈ M := fun p hp => by
        rw [List.mem_singleton.mp hp]
        exact List.mem_of_getElem? hk
      refine ⟨[x, y], [(t, c)], Hn, _, _, .cons rx (.cons ry .nil), S.rep.part hm (by simp), h, fun v d M' Hn' H' p R st e rv => ?_, fun x M' Hn' H' cls dd p R st e ri => ?_⟩
      · obtain ⟨c', rfl⟩ := one_of e
        obtain ⟨⟨b, rfl⟩, p⟩ := p c' rfl
        cases rv
        exact ⟨⟨b, rfl⟩, q _ _ _ Hn' H' p (S.call hm R st e (map_set hk) (mem_set_of S.rep.nd hk)) st.nn (.bl b)⟩
      · obtain ⟨c', rfl⟩ := one_of e
        exact (p c' rfl).elim
/-- len(x) by the class's own -/
theorem cd_ownLen {x : D} (G : GMe X.prog X.w X.K X.mg X.base k C "__len__" [] spec) (hr : Room (k + 1) X.A) (hx : InsAt M C "__len__" x) (u : spec [x] [] (fun d _ => (∃ n : Int, d = .int n ∧ 0 ≤ n ∧ n < 2 ^ 63) ∧ Φ d M) fun _ _ => False) : CallD X (.builtin "len") [x] M Φ := fun B Γ Hn H σ vs Q S rr q => by
  obtain ⟨f, fd, ps, us, dvs, F, hm, hb, hv, hd⟩ := G.ex
  obtain rfl := no_dvs hv hd
  obtain ⟨v, rfl, rx⟩ := rr.one
  refine ⟨_, call_ownLen F hm hb hr, ?_⟩
  obtain ⟨a, dx, fs, rfl, ha, _⟩ := hx.at S.rep rx
  refine ⟨a, dx, fs, rfl, ha, ?_⟩
  refine ⟨[x], [], Hn, _, _, .cons rx .nil, S.rep.part (fun p hp => by simp at hp) (by simp), u, fun v d M' Hn' H' p R st e rv => ?_, fun x M' Hn' H' cls dd p R st e ri => p.elim⟩
  obtain ⟨⟨n, rfl, n0, n1⟩, p⟩ := p
  have S' := S.call (M0 := []) (M' := M) (fun p hp => by simp at hp) R st e rfl fun p hp => .inr ⟨hp, by simp⟩
  cases rv
  exact ⟨⟨n, rfl, n0, n1⟩, q _ _ _ Hn' H' p S' st.nn (.int n)⟩
end
end DL
end

section
set_option Elab.async false
set_option linter.all false
set_option maxRecDepth 100000
set_option maxHeartbeats 4000000
/-! A def that hands back a list of its own. -/
namespace DL
open PySem PySem.Spec PyProof.Rows L2
/-- what a def hands back: data, or a list of its own that is data from then on -/
def Rt (Φ : D → Mem → Prop) (n : Nat) (d : D) (M' : Mem) : Prop := Φ d (M'.take n) ∨ ∃ (k : Nat) (t : Addr) (xs : List D), n ≤ k ∧ d = .raw (.ref t) ∧ M'[k]? = some (t, .lst xs) ∧ Φ (.lst xs) (M'.take n)
/-- as fn_d, what is handed back may be a list of the def's own -/
theorem fn_dc {Pg : Program} {w : World} {K : PySem.W.Frag} {mg : Str → Option Value} {base : Heap} {x qual : Str} {st : Stmt} {f : Addr} {fd : FuncData} {N ps : List Str} {k : Nat} {spec : Spec} (F : Fun K x qual st f fd) (Sc : FnScope N ps (defScope st))
    (len : ∀ ds M Φ Ψ, spec ds M Φ Ψ → ds.length = ps.length)
    (body : ∀ (cdv : Value) (A : Around) (outer : List Env) (s : Shared) (H : Hp) (E : XK), Room k (A.deeper (envOfC qual (defScope st) s.heap.objs.size f cdv)) → ∀ ds M Φ Ψ, spec ds M Φ Ψ →
      JSs (cxOf (L2.CX Pg w) Pg w K mg base N qual (defScope st) f cdv A outer s H E) (ds.map some ++ List.replicate (N.length - ds.length) none) M (defBody st)
        { nx := fun _ M' => Φ .non (M'.take M.length), rt := fun d M' => Rt Φ M.length d M', ex := fun x _ M' => Ψ x (M'.take M.length) }) : FnOk Pg w K mg base (L2.CX Pg w) (k + 1) f fd ps (spD K spec) := by
  refine F.okX Sc (fun vs H Q E h => ?_) (fun cdv A outer s H vs Q E hr h => ?_)
  · obtain ⟨ds, M, Hn, Φ, Ψ, r, _, hsp, _⟩ := h
    rw [r.length]
    exact len _ _ _ _ hsp
  · obtain ⟨ds, M, Hn, Φ, Ψ, r, R, hsp, q, qx⟩ := h
    refine ⟨_, pss_run, ?_⟩
    have pre : M.map (·.1) <+: M.map (·.1) := List.prefix_refl _
    have S : SR K ⟨Hn, H, M.map (·.1)⟩ M (ds.map some ++ List.replicate (N.length - ds.length) none) Hn H (L2.start N vs) := by
      refine ⟨R, Step.refl, fun p hp => .inl (List.mem_map_of_mem hp), pre, fun i d hi => ?_⟩
      unfold L2.start
      by_cases hl : i < ds.length
      · rw [List.getElem?_append_left (by simpa using hl), List.getElem?_map] at hi
        cases hd : ds[i]? with
        | none => rw [hd] at hi; cases hi
        | some d' =>
          rw [hd] at hi
          cases hi
          obtain ⟨v, hv, rv⟩ := r.get hd
          exact ⟨v, by rw [List.getElem?_append_left (by rw [List.length_map, r.length]; exact hl), List.getElem?_map, hv]; rfl, rv⟩
      · rw [List.getElem?_append_right (by simpa using hl), List.getElem?_replicate] at hi
        split at hi <;> cases hi
    -- what a state behind gives the caller
    have back : ∀ {M' : Mem} {Γ' : Sl} {Hn' H' : Hp} {σ' : L2.St}, SR K ⟨Hn, H, M.map (·.1)⟩ M' Γ' Hn' H' σ' → Rep K (M'.take M.length) Hn' H' ∧ (M'.take M.length).map (·.1) = M.map (·.1) := by
      intro M' Γ' Hn' H' σ' S'
      refine ⟨S'.rep.part (fun p hp => List.mem_of_mem_take hp) ?_, ?_⟩
      · rw [List.map_take]
        exact S'.rep.nd.sublist (List.take_sublist _ _)
      · obtain ⟨z, hz⟩ := S'.pre
        rw [List.map_take, ← hz]
        have hz' : M.map (·.1) ++ z = M'.map (·.1) := hz
        rw [List.take_append_of_le_length (by simp), List.take_of_length_le (by simp)]
    refine body cdv A outer s H E hr ds M Φ Ψ hsp (⟨Hn, H, M.map fun p : Addr × Cell => p.1⟩ : Bas) Hn H (L2.start N vs) S _ ⟨fun Γ' M' Hn' H' σ' p S' => ?_, fun Γ' M' Hn' H' σ' p => p.elim, fun Γ' M' Hn' H' σ' p => p.elim, fun v d M' Hn' H' p S' rv => ?_, fun x Γ' M' Hn' H' σ' cls dd p S' ri => ?_⟩
    · obtain ⟨b1, b2⟩ := back S'
      exact q .non .non _ Hn' H' p b1 S'.step b2 .non
    · rcases p with p | ⟨k, t, xs, hk, rfl, hM, p⟩
      · obtain ⟨b1, b2⟩ := back S'
        exact q v d _ Hn' H' p b1 S'.step b2 rv
      · cases rv
        obtain ⟨ws, h1, r⟩ := (S'.rep.cell _ (List.mem_of_getElem? hM)).2
        have hn : Hn' t = none := (S'.rep.cell _ (List.mem_of_getElem? hM)).1
        have S2 := S'.toData (o := .lst ws) hM h1 (by simpa using hk)
        obtain ⟨b1, b2⟩ := back S2
        have e : (M'.eraseIdx k).take M.length = M'.take M.length := by
          refine List.ext_getElem? fun j => ?_
          rw [List.getElem?_take, List.getElem?_take]
          split
          · rw [List.getElem?_eraseIdx, if_pos (by omega)]
          · rfl
        rw [e] at b1 b2
        exact q (.ref t) (.lst xs) _ _ H' p b1 S2.step b2 (.lst upd_same (r.mono (same_upd hn)))
    · obtain ⟨b1, b2⟩ := back S'
      exact air_of (W := fun cls d _ H => E cls d H) (takes_of rfl rfl rfl rfl) (qx x _ Hn' H' cls dd p b1 S'.step b2 ri)
end DL
end

section
set_option Elab.async false
set_option linter.all false
set_option maxRecDepth 100000
set_option maxHeartbeats 4000000
/-! list of a dict whose keys are tuples; a text times an int; [::-1]. -/
namespace DL
open PySem PySem.Spec PyProof.Rows L2
theorem seen_all {K : PySem.W.Frag} {B : Bas} {M : Mem} {Γ : Sl} {H : Hp} {σ : L2.St} : ∀ {ks : List (List Key × V)} {ds : List (D × D)} {bs : List Addr} {Hn0 : Hp}, IsT K Hn0 ks ds → IsKeys H ks bs → ∀ {Hn : Hp}, SR K B M Γ Hn H σ → ∃ Hn', SR K B M Γ Hn' H σ ∧ Same Hn Hn' ∧ IsA K Hn' (bs.map V.ref) (ds.map (·.1))
  | _, _, _, _, .nil, .nil, Hn, S => ⟨Hn, S, Same.refl _, .nil⟩
  | _, _, _, _, .cons (k := k) a r, .cons e t, Hn, S => by
    obtain ⟨Hn1, S1, e1, h1⟩ := S.seen e
    obtain ⟨Hn2, S2, e2, r2⟩ := seen_all r t S1
    refine ⟨Hn2, S2, e1.trans e2, .cons (.tup (.inl (e2 _ _ h1)) ?_) r2⟩
    have ki : ∀ l : List Key, IsA K Hn2 (l.map kV) (l.map keyD) := by
      intro l
      induction l with
      | nil => exact .nil
      | cons x l ih =>
        refine .cons ?_ ih
        cases x with
        | inl i => exact .int i
        | inr x => exact .str x
    exact ki k
theorem cd_listDT {X : Cx} {M : Mem} {Φ : D → Mem → Prop} {x : D} {kvs : List (D × D)} (hc : X.calm = true) (hx : DicT M x kvs) (h : Φ (.lst (kvs.map (·.1))) M) : CallD X (.type "list") [x] M Φ := fun B Γ Hn H σ vs Q S rr q => by
  obtain ⟨v, rfl, r⟩ := rr.one
  obtain ⟨a, ks, rfl, ha, rk⟩ := hx.at S.rep r
  refine ⟨_, call_list_dT hc, a, ks, rfl, .inl ha, fun p bs hp hb => ?_⟩
  obtain ⟨Hn1, S1, e1, r1⟩ := seen_all rk hb S
  have sn := same_upd (o := .lst (bs.map V.ref)) (S1.rep.nn hp)
  exact q _ _ M _ _ h (S1.alloc hp) (e1.trans sn) (.lst upd_same (r1.mono sn))
theorem op_mulS {X : Cx} : OpR X (binaryOp .Mult) (fun x y H Q => ∃ z n, x = .str z ∧ y = .int n ∧ MulOk z n ∧ Q (.str (Txt.mul z n)) H) := by
  intro pins s σ H x y v u Q I rx ry h
  obtain ⟨z, n, rfl, rfl, hok, q⟩ := h
  obtain ⟨t, rfl⟩ := rx
  obtain ⟨t2, rfl⟩ := ry
  exact SB.mul hok fun t' k => ⟨.str _, H, I.tok k, ⟨t', rfl⟩, q⟩
theorem opd_mulS {X : Cx} {M : Mem} {Φ : D → Mem → Prop} {z : Str} {n : Int} (hok : MulOk z n) (h : Φ (.str (Txt.mul z n)) M) : OpD X (binaryOp .Mult) (.str z) (.int n) M Φ := fun B Γ Hn H σ v u Q S rx ry q => by
  cases rx
  cases ry
  exact ⟨_, op_mulS, z, n, rfl, rfl, hok, q _ _ _ _ _ h S (Same.refl _) (.str _)⟩
theorem isA_rev {K : PySem.W.Frag} {H : Hp} : ∀ {vs : List V} {ds : List D}, IsA K H vs ds → IsA K H vs.reverse ds.reverse
  | _, _, .nil => .nil
  | _, _, .cons a b => by
    rw [List.reverse_cons, List.reverse_cons]
    exact (isA_rev b).append (.cons a .nil)
theorem je_rev {X : Cx} {Γ : Sl} {M : Mem} {Φ : D → Mem → Prop} {Ψ : XP} {e : Expr} {k : Nat} {p1 p2 p3 pos : Pos} (h : JE X Γ M e (fun x M1 => ∃ xs, x = .lst xs ∧ Φ (.lst xs.reverse) M1) Ψ) : JE X Γ M (.Subscript e (.Slice none none (some (.UnaryOp .USub (.Constant (.int 1) k p1) p2)) p3) pos) Φ Ψ := fun B Hn H σ S A Q q => by
  refine run_pe (pe_revL pe_run) ?_
  refine h B Hn H σ S A _ fun v d M1 Hn1 H1 p1 S1 e1 r1 => ?_
  obtain ⟨xs, rfl, hp⟩ := p1
  cases r1 with
  | @lst t ws _ h1 r1 =>
    refine ⟨t, ws, rfl, SqL.of (S1.rep.sub _ _ h1), fun p hp' => ?_⟩
    have sn := same_upd (o := .lst ws.reverse) (S1.rep.nn hp')
    exact q _ _ _ _ _ hp (S1.alloc hp') (e1.trans sn) (.lst upd_same ((isA_rev r1).mono sn))
end DL
end

section
set_option Elab.async false
set_option linter.all false
set_option maxRecDepth 100000
set_option maxHeartbeats 4000000
/-! A def with defaults. -/
namespace DL
open PySem PySem.Spec PyProof.Rows L2
/-- as fn_d, a def with defaults -/
theorem fn_dD {Pg : Program} {w : World} {K : PySem.W.Frag} {mg : Str → Option Value} {base : Heap} {x qual : Str} {st : Stmt} {f : Addr} {fd : FuncData} {N ps : List Str} {k : Nat} {spec : Spec} {dvs : List V} {kws : List (Str × V)} (F : FunD K x qual (defArgs st) (defBody st) (defScope st) dvs kws f fd) (Sc : FnScope N ps (defScope st))
    (len : ∀ ds M Φ Ψ, spec ds M Φ Ψ → ds.length = ps.length)
    (body : ∀ (cdv : Value) (A : Around) (outer : List Env) (s : Shared) (H : Hp) (E : XK), Room k (A.deeper (envOfC qual (defScope st) s.heap.objs.size f cdv)) → ∀ ds M Φ Ψ, spec ds M Φ Ψ →
      JSs (cxOf (L2.CX Pg w) Pg w K mg base N qual (defScope st) f cdv A outer s H E) (ds.map some ++ List.replicate (N.length - ds.length) none) M (defBody st)
        { nx := fun _ M' => Φ .non (M'.take M.length), rt := fun d M' => Φ d (M'.take M.length), ex := fun x _ M' => Ψ x (M'.take M.length) }) : FnOk Pg w K mg base (L2.CX Pg w) (k + 1) f fd ps (spD K spec) := by
  refine F.ok (CX := L2.CX Pg w) Sc (fun vs H Q E h => ?_) (fun cdv A outer s H vs Q E hr h => ?_)
  · obtain ⟨ds, M, Hn, Φ, Ψ, r, _, hsp, _⟩ := h
    rw [r.length]
    exact len _ _ _ _ hsp
  · obtain ⟨ds, M, Hn, Φ, Ψ, r, R, hsp, q, qx⟩ := h
    refine ⟨_, pss_run, ?_⟩
    have pre : M.map (·.1) <+: M.map (·.1) := List.prefix_refl _
    have S : SR K ⟨Hn, H, M.map (·.1)⟩ M (ds.map some ++ List.replicate (N.length - ds.length) none) Hn H (L2.start N vs) := by
      refine ⟨R, Step.refl, fun p hp => .inl (List.mem_map_of_mem hp), pre, fun i d hi => ?_⟩
      unfold L2.start
      by_cases hl : i < ds.length
      · rw [List.getElem?_append_left (by simpa using hl), List.getElem?_map] at hi
        cases hd : ds[i]? with
        | none => rw [hd] at hi; cases hi
        | some d' =>
          rw [hd] at hi
          cases hi
          obtain ⟨v, hv, rv⟩ := r.get hd
          exact ⟨v, by rw [List.getElem?_append_left (by rw [List.length_map, r.length]; exact hl), List.getElem?_map, hv]; rfl, rv⟩
      · rw [List.getElem?_append_right (by simpa using hl), List.getElem?_replicate] at hi
        split at hi <;> cases hi
    -- what a state behind gives the caller
    have back : ∀ {M' : Mem} {Γ' : Sl} {Hn' H' : Hp} {σ' : L2.St}, SR K ⟨Hn, H, M.map (·.1)⟩ M' Γ' Hn' H' σ' → Rep K (M'.take M.length) Hn' H' ∧ (M'.take M.length).map (·.1) = M.map (·.1) := by
      intro M' Γ' Hn' H' σ' S'
      refine ⟨S'.rep.part (fun p hp => List.mem_of_mem_take hp) ?_, ?_⟩
      · rw [List.map_take]
        exact S'.rep.nd.sublist (List.take_sublist _ _)
      · obtain ⟨z, hz⟩ := S'.pre
        rw [List.map_take, ← hz]
        have hz' : M.map (·.1) ++ z = M'.map (·.1) := hz
        rw [List.take_append_of_le_length (by simp), List.take_of_length_le (by simp)]
    refine body cdv A outer s H E hr ds M Φ Ψ hsp (⟨Hn, H, M.map fun p : Addr × Cell => p.1⟩ : Bas) Hn H (L2.start N vs) S _ ⟨fun Γ' M' Hn' H' σ' p S' => ?_, fun Γ' M' Hn' H' σ' p => p.elim, fun Γ' M' Hn' H' σ' p => p.elim, fun v d M' Hn' H' p S' rv => ?_, fun x Γ' M' Hn' H' σ' cls dd p S' ri => ?_⟩
    · obtain ⟨b1, b2⟩ := back S'
      exact q .non .non _ Hn' H' p b1 S'.step b2 .non
    · obtain ⟨b1, b2⟩ := back S'
      exact q v d _ Hn' H' p b1 S'.step b2 rv
    · obtain ⟨b1, b2⟩ := back S'
      exact air_of (W := fun cls d _ H => E cls d H) (takes_of rfl rfl rfl rfl) (qx x _ Hn' H' cls dd p b1 S'.step b2 ri)
end DL
end

section
set_option Elab.async false
set_option linter.all false
set_option maxRecDepth 100000
set_option maxHeartbeats 4000000
/-! The program's defs. -/
namespace K27
open PySem PySem.Spec PyProof.Rows L2 DL
def top (i : Nat) : Stmt := PySem.Challenge.pw_doneornot_k27_plans_made.main.body.getD i (.Pass ⟨0, 0, 0, 0⟩)
abbrev sIsName : Stmt := top 4
abbrev sIsWhole : Stmt := top 6
abbrev sIsListed : Stmt := top 7
abbrev sIsRow : Stmt := top 10



/-- what the values are that the checks are asked about -/
def okv (d : D) : Prop := (∃ n, tyN d = some n) ∧ ∀ z, d = .str z → z.length ≤ 1000000
noncomputable def isName (d : D) : Bool := match d with
  | .str z => decide (1 ≤ (z.length : Int)) && decide ((z.length : Int) ≤ 12) && Txt.isascii z && Txt.isalnum z && Txt.islower z && Txt.isalpha ⟨#[z.cps.toList.headD 0]⟩
  | _ => false
theorem at_head (z : Str) (h : 1 ≤ (z.length : Int)) : atI z.cps.toList 0 = some (z.cps.toList.headD 0) := by
  have h' : 1 ≤ z.cps.toList.length := by
    have : z.length = z.cps.toList.length := by simp [Str.length]
    omega
  cases q : z.cps.toList with
  | nil =>
    rw [q] at h'
    cases h'
  | cons c r => simp [atI, ixN]
section
variable {P : Program} {w : World} {K : PySem.W.Frag} {mg : Str → Option Value} {base : Heap} {f : Addr} {fd : FuncData}
theorem scIsName : FnScope ["value"] ["value"] (defScope sIsName) := ⟨rfl, rfl, rfl, by decide +kernel, rfl, by decide +kernel, by decide +kernel⟩
theorem ok_isName (F : Fun K "is_name" "is_name" sIsName f fd) (b : Bn mg) : FnOk P w K mg base (L2.CX P w) 1 f fd ["value"] (spD K (pureS (fun ds => ∃ d, ds = [d] ∧ okv d) fun ds => .bl (isName (ds.headD .non)))) := by
  refine fn_d F scIsName (fun ds M Φ Ψ h => ?_) (fun cdv A outer s H E hr ds M Φ Ψ h => ?_)
  · obtain ⟨_, ⟨d, rfl, _⟩, _⟩ := h
    rfl
  · obtain ⟨rfl, ⟨d, rfl, ⟨n, hn⟩, hs⟩, h⟩ := h
    replace h : Φ (.bl (isName d)) [] := h
    have hu := hr.units
    show JSs _ [some d] [] _ _
    refine jss_cons (js_if ?_)
    refine jt_w (jw_or (jt_not (jt_val (je_isi b.isinstance b.str boot_str (by decide) (je_var 0 rfl ⟨n, hn, _, rfl, ?_⟩)))))
    cases d with
    | str z =>
      refine ite_f rfl ?_
      have hz : isName (.str z) = (decide (1 ≤ (z.length : Int)) && decide ((z.length : Int) ≤ 12) && Txt.isascii z && Txt.isalnum z && Txt.islower z && Txt.isalpha ⟨#[z.cps.toList.headD 0]⟩) := rfl
      rw [hz] at h
      refine jw_or (jt_not (jt_chain (je_int (je_len b.len (je_var 0 rfl ⟨_, .inr (.inr (.inl ⟨z, rfl, hs z rfl, rfl⟩)), opd_leI ⟨_, rfl, ?_⟩⟩)))))
      refine ite_2 (fun c1 => je_int (opd_leI ⟨_, rfl, ?_⟩)) fun c1 => ?_
      · rw [c1] at h
        refine ite_2 (fun c2 => ?_) fun c2 => ?_
        · refine ite_t rfl (jss_one (js_ret (je_bl ?_)))
          rw [Bool.not_eq_true'] at c2
          rw [c2] at h
          exact h
        · rw [Bool.not_eq_false'] at c2
          rw [c2] at h
          refine jw_or1 (jt_not (jt_val (je_m0 PySem.F.plainAttrs_str PySem.F.slot_str_isascii PySem.F.type_str_isascii (je_var 0 rfl ⟨.inl ⟨rfl, z, rfl⟩, md_isascii ⟨_, rfl, ?_⟩⟩))))
          refine ite_2 (fun c3 => ?_) fun c3 => ?_
          · refine jss_one (js_ret (je_bl ?_))
            rw [Bool.not_eq_true'] at c3
            rw [c3] at h
            exact h
          · rw [Bool.not_eq_false'] at c3
            rw [c3] at h
            refine jss_nil (jss_one (js_ret ?_))
            refine je_and (je_m0 PySem.F.plainAttrs_str PySem.F.slot_str_isalnum PySem.F.type_str_isalnum (je_var 0 rfl ⟨.inl ⟨rfl, z, rfl⟩, md_isalnum ⟨_, rfl, ?_⟩⟩))
            refine ite_2 (fun c4 => ?_) fun c4 => ?_
            · rw [c4] at h
              refine je_and (je_m0 PySem.F.plainAttrs_str PySem.F.slot_str_islower PySem.F.type_str_islower (je_var 0 rfl ⟨.inl ⟨rfl, z, rfl⟩, md_islower ⟨_, rfl, ?_⟩⟩))
              refine ite_2 (fun c5 => ?_) fun c5 => ?_
              · rw [c5] at h
                refine je_one (je_m0 PySem.F.plainAttrs_str PySem.F.slot_str_isalpha PySem.F.type_str_isalpha (je_ixS (je_var 0 rfl (je_int ⟨z, 0, z.cps.toList.headD 0, rfl, rfl, hs z rfl, ?_, .inl ⟨rfl, _, rfl⟩, md_isalpha ?_⟩))))
                · exact at_head z (of_decide_eq_true c1)
                · simpa using h
              · rw [c5] at h
                simpa using h
            · rw [c4] at h
              simpa using h
      · rw [c1] at h
        refine ite_t rfl (ite_t rfl (jss_one (js_ret (je_bl ?_))))
        exact h
    | _ =>
      exact ite_t rfl (ite_t rfl (jss_one (js_ret (je_bl h))))
end
end K27
end

section
set_option Elab.async false
set_option linter.all false
set_option maxRecDepth 100000
set_option maxHeartbeats 4000000
set_option pp.maxSteps 700
set_option hygiene false
open PySem PyProof.Rows L2 DL
namespace K27
open PySem PySem.Spec PyProof.Rows L2 DL
def isWhole (d lo hi : D) : Bool := match d, lo, hi with
  | .int i, .int l, .non => decide (l ≤ i)
  | .int i, .int l, .int m => decide (l ≤ i) && decide (i ≤ m)
  | _, _, _ => false
def isListed : D → Bool
  | .tup _ => true
  | .lst _ => true
  | _ => false
section
variable {P : Program} {w : World} {K : PySem.W.Frag} {mg : Str → Option Value} {base : Heap} {f : Addr} {fd : FuncData}
local macro_rules | `(tactic| walk_at "jgo") => `(tactic| repeat' (first | ((with_reducible show JE _ _ _ _ _ _); first | ((with_reducible show JE _ _ _ (.Constant _ _ _) _ _); first | with_reducible refine je_int ?_ | with_reducible refine je_str ?_ | with_reducible refine je_bl ?_ | with_reducible refine je_non ?_) | ((with_reducible show JE _ _ _ (.Name _ _) _ _); first | ((with_reducible show JE _ _ _ (.Name (Str.ofString "value") _) _ _); refine je_var 0 rfl ?_) | ((with_reducible show JE _ _ _ (.Name (Str.ofString "least") _) _ _); refine je_var 1 rfl ?_) | ((with_reducible show JE _ _ _ (.Name (Str.ofString "most") _) _ _); refine je_var 2 rfl ?_)) | ((with_reducible show JE _ _ _ (.Call (.Name _ _) _ _ _) _ _); first | ((with_reducible show JE _ _ _ (.Call (.Name (Str.ofString "isinstance") _) _ _ _) _ _); first | ((with_reducible show JE _ _ _ (.Call _ [_, .Name (Str.ofString "str") _] _ _) _ _); refine je_isi b.isinstance b.str boot_str (by decide) ?_) | ((with_reducible show JE _ _ _ (.Call _ [_, .Name (Str.ofString "int") _] _ _) _ _); refine je_isi b.isinstance b.int boot_int (by decide) ?_) | ((with_reducible show JE _ _ _ (.Call _ [_, .Name (Str.ofString "bool") _] _ _) _ _); refine je_isi b.isinstance b.bool boot_bool (by decide) ?_) | ((with_reducible show JE _ _ _ (.Call _ [_, .Name (Str.ofString "tuple") _] _ _) _ _); refine je_isi b.isinstance b.tuple boot_tuple (by decide) ?_) | ((with_reducible show JE _ _ _ (.Call _ [_, .Name (Str.ofString "list") _] _ _) _ _); refine je_isi b.isinstance b.list boot_list (by decide) ?_) | ((with_reducible show JE _ _ _ (.Call _ [_, .Name (Str.ofString "dict") _] _ _) _ _); refine je_isi b.isinstance b.dict boot_dict (by decide) ?_) | ((with_reducible show JE _ _ _ (.Call _ [_, .Tuple [.Name (Str.ofString "tuple") _, .Name (Str.ofString "list") _] _ _] _ _) _ _); refine je_isiP b.isinstance b.tuple boot_tuple b.list boot_list (by decide) (by decide) ?_)) | ((with_reducible show JE _ _ _ (.Call (.Name (Str.ofString "len") _) _ _ _) _ _); refine je_len b.len ?_) | ((with_reducible show JE _ _ _ (.Call (.Name (Str.ofString "all") _) _ _ _) _ _); refine je_callB b.all boot_all ?_) | ((with_reducible show JE _ _ _ (.Call (.Name (Str.ofString "any") _) _ _ _) _ _); refine je_callB b.any boot_any ?_) | ((with_reducible show JE _ _ _ (.Call (.Name (Str.ofString "sorted") _) _ _ _) _ _); refine je_callB b.sorted boot_sorted ?_) | ((with_reducible show JE _ _ _ (.Call (.Name (Str.ofString "min") _) _ _ _) _ _); refine je_callB b.min boot_min ?_) | ((with_reducible show JE _ _ _ (.Call (.Name (Str.ofString "list") _) _ _ _) _ _); refine je_callT b.list boot_list ?_) | ((with_reducible show JE _ _ _ (.Call (.Name (Str.ofString "tuple") _) _ _ _) _ _); refine je_callT b.tuple boot_tuple ?_) | ((with_reducible show JE _ _ _ (.Call (.Name (Str.ofString "str") _) _ _ _) _ _); refine je_callT b.str boot_str ?_) | ((with_reducible show JE _ _ _ (.Call (.Name (Str.ofString "int") _) _ _ _) _ _); refine je_callT b.int boot_int ?_)) | with_reducible refine je_not ?_ | with_reducible refine je_one ?_ | with_reducible refine je_and ?_ | with_reducible refine je_or ?_ | ((with_reducible show JE _ _ _ (.Compare _ [_, _] _ _) _ _); refine je_chain ?_) | ((with_reducible show JE _ _ _ (.Compare _ [_] _ _) _ _); refine je_cmp ?_) | with_reducible refine je_op ?_ | with_reducible refine je_tup ?_ | with_reducible refine je_ifExp ?_) | ((with_reducible show Exists _); refine ⟨_, rfl, ?_⟩) | ((with_reducible show ite _ _ _); first | refine ite_t rfl ?_ | refine ite_f rfl ?_) | ((with_reducible show OpD _ _ _ _ _ _); first | with_reducible refine opd_addI ?_ | with_reducible refine opd_subI ?_ | with_reducible refine opd_ltI ?_ | with_reducible refine opd_leI ?_ | with_reducible refine opd_gtI ?_ | with_reducible refine opd_geI ?_ | with_reducible refine opd_eqI ?_ | with_reducible refine opd_neI ?_ | with_reducible refine opd_eqS ?_ | with_reducible refine opd_neS ?_ | with_reducible refine opd_eqB ?_ | with_reducible refine opd_neB ?_) | ((with_reducible show JA _ _ _ _ _ _); first | with_reducible refine ja_nil ?_ | refine ja_cons ?_) | ((with_reducible show JT _ _ _ _ _ _); first | with_reducible refine jt_not ?_ | ((with_reducible show JT _ _ _ (.BoolOp .Or _ _) _ _); with_reducible refine jt_w (jw_or ?_)) | ((with_reducible show JT _ _ _ (.BoolOp .And _ _) _ _); with_reducible refine jt_w (jw_and ?_)) | ((with_reducible show JT _ _ _ (.Compare _ [_, _] _ _) _ _); refine jt_chain ?_) | ((with_reducible show JT _ _ _ (.Compare _ [_] _ _) _ _); refine jt_cmp ?_) | ((with_reducible show JT _ _ _ (.Call _ _ _ _) _ _); refine jt_val ?_)) | ((with_reducible show JW _ _ _ _ _ _); first | with_reducible refine jw_or1 ?_ | with_reducible refine jw_and1 ?_ | with_reducible refine jw_or ?_ | with_reducible refine jw_and ?_) | ((with_reducible show JSs _ _ _ _ _); first | with_reducible refine jss_one ?_ | with_reducible refine jss_cons ?_ | with_reducible refine jss_nil ?_) | ((with_reducible show JS _ _ _ _ _); first | with_reducible refine js_if ?_ | with_reducible refine js_ret ?_ | with_reducible refine js_retN ?_ | ((with_reducible show JS _ _ _ (.Expr _ _) _); refine js_expr ?_) | ((with_reducible show JS _ _ _ (.Assign [.Name _ _] _ _) _); first | ((with_reducible show JS _ _ _ (.Assign [.Name (Str.ofString "value") _] _ _) _); refine js_set 0 ?_ nd) | ((with_reducible show JS _ _ _ (.Assign [.Name (Str.ofString "least") _] _ _) _); refine js_set 1 ?_ nd) | ((with_reducible show JS _ _ _ (.Assign [.Name (Str.ofString "most") _] _ _) _); refine js_set 2 ?_ nd))) | ((with_reducible show JG _ _ _ (.Name _ _) _ _); first | ((with_reducible show JG _ _ _ (.Name (Str.ofString "value") _) _ _); refine jg_name 0 ?_ nd) | ((with_reducible show JG _ _ _ (.Name (Str.ofString "least") _) _ _); refine jg_name 1 ?_ nd) | ((with_reducible show JG _ _ _ (.Name (Str.ofString "most") _) _ _); refine jg_name 2 ?_ nd))))
theorem scIsWhole : FnScope ["value", "least", "most"] ["value", "least", "most"] (defScope sIsWhole) := ⟨rfl, rfl, rfl, by decide +kernel, rfl, by decide +kernel, by decide +kernel⟩
theorem ok_isWhole (F : FunD K "is_whole" "is_whole" (defArgs sIsWhole) (defBody sIsWhole) (defScope sIsWhole) [.non] [] f fd) (b : Bn mg) : FnOk P w K mg base (L2.CX P w) 1 f fd ["value", "least", "most"] (spD K (pureS (fun ds => ∃ d l hi, ds = [d, .int l, hi] ∧ okv d ∧ (hi = .non ∨ ∃ m, hi = .int m)) fun ds => .bl (isWhole (ds.getD 0 .non) (ds.getD 1 .non) (ds.getD 2 .non)))) := by
  refine fn_dD F scIsWhole (fun ds M Φ Ψ h => ?_) (fun cdv A outer s H E hr ds M Φ Ψ h => ?_)
  · obtain ⟨_, ⟨d, l, hi, rfl, _⟩, _⟩ := h
    rfl
  · obtain ⟨rfl, ⟨d, l, hi, rfl, ⟨⟨n, hn⟩, hs⟩, hm⟩, h⟩ := h
    replace h : Φ (.bl (isWhole d (.int l) hi)) [] := h
    have hu := hr.units
    have nd := scIsWhole.nd
    show JSs _ [some d, some (.int l), some hi] [] _ _
    refine jss_cons ?_
    cases d with
    | int i =>
      walk_at "jgo"
      by_cases c : i < l
      · refine ite_t (decide_eq_true c) ?_
        walk_at "jgo"
        rcases hm with rfl | ⟨m, rfl⟩
        · have e : isWhole (.int i) (.int l) .non = false := decide_eq_false (by omega)
          rw [e] at h
          exact h
        · have e : isWhole (.int i) (.int l) (.int m) = false := by
            show (decide (l ≤ i) && decide (i ≤ m)) = false
            rw [decide_eq_false (by omega), Bool.false_and]
          rw [e] at h
          exact h
      · refine ite_f (decide_eq_false c) ?_
        walk_at "jgo"
        rcases hm with rfl | ⟨m, rfl⟩
        · refine opd_isN (fun z => by simp) ?_
          walk_at "jgo"
          have e : isWhole (.int i) (.int l) .non = true := decide_eq_true (by omega)
          rw [e] at h
          exact h
        · refine opd_isN (fun z => by simp) ?_
          walk_at "jgo"
          have e : isWhole (.int i) (.int l) (.int m) = decide (i ≤ m) := by
            show (decide (l ≤ i) && decide (i ≤ m)) = decide (i ≤ m)
            rw [decide_eq_true (by omega : l ≤ i), Bool.true_and]
          rw [e] at h
          exact h
    | bl i =>
      walk_at "jgo"
      exact h
    | ins => cases hn
    | raw => cases hn
    | exc => cases hn
    | _ =>
      walk_at "jgo"
      exact h
end
end K27
end

section
set_option Elab.async false
set_option linter.all false
set_option maxRecDepth 100000
set_option maxHeartbeats 4000000
set_option pp.maxSteps 700
set_option hygiene false
open PySem PyProof.Rows L2 DL
namespace K27
open PySem PySem.Spec PyProof.Rows L2 DL
def MOST : Int := 10 ^ 40 - 1
noncomputable def num (d : D) : Bool := isWhole d (.int 0) (.int MOST)
noncomputable def isRow : D → Bool
  | .tup [a, b, c, d, e] => isName a && isName c && (num b && (num d && num e))
  | _ => false
def okr (d : D) : Prop := okv d ∧ ∀ xs, d = .tup xs → ∀ x ∈ xs, okv x
noncomputable def spName : DL.Spec := DL.pureS (fun ds => ∃ d, ds = [d] ∧ okv d) fun ds => .bl (isName (ds.headD .non))
noncomputable def spWhole : DL.Spec := DL.pureS (fun ds => ∃ d l hi, ds = [d, .int l, hi] ∧ okv d ∧ (hi = .non ∨ ∃ m, hi = .int m)) fun ds => .bl (isWhole (ds.getD 0 .non) (ds.getD 1 .non) (ds.getD 2 .non))
def spListed : DL.Spec := DL.pureS (fun ds => ∃ d n, ds = [d] ∧ tyN d = some n) fun ds => .bl (isListed (ds.headD .non))
noncomputable def spRow : DL.Spec := DL.pureS (fun ds => ∃ d, ds = [d] ∧ okr d) fun ds => .bl (isRow (ds.headD .non))
theorem use_name {M : Mem} {Φ : D → Mem → Prop} {Ψ : XP} {d : D} (h : okv d) (k : Φ (.bl (isName d)) M) : Use spName [d] M Φ Ψ := .none ⟨rfl, ⟨d, rfl, h⟩, k⟩
theorem use_whole {M : Mem} {Φ : D → Mem → Prop} {Ψ : XP} {d hi : D} {l : Int} (h : okv d) (hh : hi = .non ∨ ∃ m, hi = .int m) (k : Φ (.bl (isWhole d (.int l) hi)) M) : Use spWhole [d, .int l, hi] M Φ Ψ := .none ⟨rfl, ⟨d, l, hi, rfl, h, hh⟩, k⟩
section
variable {P : Program} {w : World} {K : PySem.W.Frag} {mg : Str → Option Value} {base : Heap} {f : Addr} {fd : FuncData}
section
local macro_rules | `(tactic| walk_at "jgo") => `(tactic| repeat' (first | ((with_reducible show JE _ _ _ _ _ _); first | ((with_reducible show JE _ _ _ (.Constant _ _ _) _ _); first | with_reducible refine je_int ?_ | with_reducible refine je_str ?_ | with_reducible refine je_bl ?_ | with_reducible refine je_non ?_) | ((with_reducible show JE _ _ _ (.Name _ _) _ _); first | ((with_reducible show JE _ _ _ (.Name (Str.ofString "value") _) _ _); refine je_var 0 rfl ?_)) | ((with_reducible show JE _ _ _ (.Call (.Name _ _) _ _ _) _ _); first | ((with_reducible show JE _ _ _ (.Call (.Name (Str.ofString "isinstance") _) _ _ _) _ _); first | ((with_reducible show JE _ _ _ (.Call _ [_, .Name (Str.ofString "str") _] _ _) _ _); refine je_isi b.isinstance b.str boot_str (by decide) ?_) | ((with_reducible show JE _ _ _ (.Call _ [_, .Name (Str.ofString "int") _] _ _) _ _); refine je_isi b.isinstance b.int boot_int (by decide) ?_) | ((with_reducible show JE _ _ _ (.Call _ [_, .Name (Str.ofString "bool") _] _ _) _ _); refine je_isi b.isinstance b.bool boot_bool (by decide) ?_) | ((with_reducible show JE _ _ _ (.Call _ [_, .Name (Str.ofString "tuple") _] _ _) _ _); refine je_isi b.isinstance b.tuple boot_tuple (by decide) ?_) | ((with_reducible show JE _ _ _ (.Call _ [_, .Name (Str.ofString "list") _] _ _) _ _); refine je_isi b.isinstance b.list boot_list (by decide) ?_) | ((with_reducible show JE _ _ _ (.Call _ [_, .Name (Str.ofString "dict") _] _ _) _ _); refine je_isi b.isinstance b.dict boot_dict (by decide) ?_) | ((with_reducible show JE _ _ _ (.Call _ [_, .Tuple [.Name (Str.ofString "tuple") _, .Name (Str.ofString "list") _] _ _] _ _) _ _); refine je_isiP b.isinstance b.tuple boot_tuple b.list boot_list (by decide) (by decide) ?_)) | ((with_reducible show JE _ _ _ (.Call (.Name (Str.ofString "len") _) _ _ _) _ _); refine je_len b.len ?_) | ((with_reducible show JE _ _ _ (.Call (.Name (Str.ofString "all") _) _ _ _) _ _); refine je_callB b.all boot_all ?_) | ((with_reducible show JE _ _ _ (.Call (.Name (Str.ofString "any") _) _ _ _) _ _); refine je_callB b.any boot_any ?_) | ((with_reducible show JE _ _ _ (.Call (.Name (Str.ofString "sorted") _) _ _ _) _ _); refine je_callB b.sorted boot_sorted ?_) | ((with_reducible show JE _ _ _ (.Call (.Name (Str.ofString "min") _) _ _ _) _ _); refine je_callB b.min boot_min ?_) | ((with_reducible show JE _ _ _ (.Call (.Name (Str.ofString "list") _) _ _ _) _ _); refine je_callT b.list boot_list ?_) | ((with_reducible show JE _ _ _ (.Call (.Name (Str.ofString "tuple") _) _ _ _) _ _); refine je_callT b.tuple boot_tuple ?_) | ((with_reducible show JE _ _ _ (.Call (.Name (Str.ofString "str") _) _ _ _) _ _); refine je_callT b.str boot_str ?_) | ((with_reducible show JE _ _ _ (.Call (.Name (Str.ofString "int") _) _ _ _) _ _); refine je_callT b.int boot_int ?_)) | with_reducible refine je_not ?_ | with_reducible refine je_one ?_ | with_reducible refine je_and ?_ | with_reducible refine je_or ?_ | ((with_reducible show JE _ _ _ (.Compare _ [_, _] _ _) _ _); refine je_chain ?_) | ((with_reducible show JE _ _ _ (.Compare _ [_] _ _) _ _); refine je_cmp ?_) | with_reducible refine je_op ?_ | with_reducible refine je_tup ?_ | with_reducible refine je_ifExp ?_) | ((with_reducible show Exists _); refine ⟨_, rfl, ?_⟩) | ((with_reducible show ite _ _ _); first | refine ite_t rfl ?_ | refine ite_f rfl ?_) | ((with_reducible show OpD _ _ _ _ _ _); first | with_reducible refine opd_addI ?_ | with_reducible refine opd_subI ?_ | with_reducible refine opd_ltI ?_ | with_reducible refine opd_leI ?_ | with_reducible refine opd_gtI ?_ | with_reducible refine opd_geI ?_ | with_reducible refine opd_eqI ?_ | with_reducible refine opd_neI ?_ | with_reducible refine opd_eqS ?_ | with_reducible refine opd_neS ?_ | with_reducible refine opd_eqB ?_ | with_reducible refine opd_neB ?_) | ((with_reducible show JA _ _ _ _ _ _); first | with_reducible refine ja_nil ?_ | refine ja_cons ?_) | ((with_reducible show JT _ _ _ _ _ _); first | with_reducible refine jt_not ?_ | ((with_reducible show JT _ _ _ (.BoolOp .Or _ _) _ _); with_reducible refine jt_w (jw_or ?_)) | ((with_reducible show JT _ _ _ (.BoolOp .And _ _) _ _); with_reducible refine jt_w (jw_and ?_)) | ((with_reducible show JT _ _ _ (.Compare _ [_, _] _ _) _ _); refine jt_chain ?_) | ((with_reducible show JT _ _ _ (.Compare _ [_] _ _) _ _); refine jt_cmp ?_) | ((with_reducible show JT _ _ _ (.Call _ _ _ _) _ _); refine jt_val ?_)) | ((with_reducible show JW _ _ _ _ _ _); first | with_reducible refine jw_or1 ?_ | with_reducible refine jw_and1 ?_ | with_reducible refine jw_or ?_ | with_reducible refine jw_and ?_) | ((with_reducible show JSs _ _ _ _ _); first | with_reducible refine jss_one ?_ | with_reducible refine jss_cons ?_ | with_reducible refine jss_nil ?_) | ((with_reducible show JS _ _ _ _ _); first | with_reducible refine js_if ?_ | with_reducible refine js_ret ?_ | with_reducible refine js_retN ?_ | ((with_reducible show JS _ _ _ (.Expr _ _) _); refine js_expr ?_) | ((with_reducible show JS _ _ _ (.Assign [.Name _ _] _ _) _); first | ((with_reducible show JS _ _ _ (.Assign [.Name (Str.ofString "value") _] _ _) _); refine js_set 0 ?_ nd))) | ((with_reducible show JG _ _ _ (.Name _ _) _ _); first | ((with_reducible show JG _ _ _ (.Name (Str.ofString "value") _) _ _); refine jg_name 0 ?_ nd))))
theorem scIsListed : FnScope ["value"] ["value"] (defScope sIsListed) := ⟨rfl, rfl, rfl, by decide +kernel, rfl, by decide +kernel, by decide +kernel⟩
theorem ok_isListed (F : Fun K "is_listed" "is_listed" sIsListed f fd) (b : Bn mg) : FnOk P w K mg base (L2.CX P w) 1 f fd ["value"] (spD K spListed) := by
  refine fn_d F scIsListed (fun ds M Φ Ψ h => ?_) (fun cdv A outer s H E hr ds M Φ Ψ h => ?_)
  · obtain ⟨_, ⟨d, n, rfl, _⟩, _⟩ := h
    rfl
  · obtain ⟨rfl, ⟨d, n, rfl, hn⟩, h⟩ := h
    replace h : Φ (.bl (isListed d)) [] := h
    show JSs _ [some d] [] _ _
    refine jss_one ?_
    cases d with
    | ins => cases hn
    | raw => cases hn
    | exc => cases hn
    | _ =>
      walk_at "jgo"
      exact h
end
section
local macro_rules | `(tactic| walk_at "jgo") => `(tactic| repeat' (first | ((with_reducible show JE _ _ _ _ _ _); first | ((with_reducible show JE _ _ _ (.Constant _ _ _) _ _); first | with_reducible refine je_int ?_ | with_reducible refine je_str ?_ | with_reducible refine je_bl ?_ | with_reducible refine je_non ?_) | ((with_reducible show JE _ _ _ (.Name _ _) _ _); first | ((with_reducible show JE _ _ _ (.Name (Str.ofString "value") _) _ _); refine je_var 0 rfl ?_) | ((with_reducible show JE _ _ _ (.Name (Str.ofString "at") _) _ _); refine je_var 1 rfl ?_)) | ((with_reducible show JE _ _ _ (.Call (.Name _ _) _ _ _) _ _); first | ((with_reducible show JE _ _ _ (.Call (.Name (Str.ofString "isinstance") _) _ _ _) _ _); first | ((with_reducible show JE _ _ _ (.Call _ [_, .Name (Str.ofString "str") _] _ _) _ _); refine je_isi b.isinstance b.str boot_str (by decide) ?_) | ((with_reducible show JE _ _ _ (.Call _ [_, .Name (Str.ofString "int") _] _ _) _ _); refine je_isi b.isinstance b.int boot_int (by decide) ?_) | ((with_reducible show JE _ _ _ (.Call _ [_, .Name (Str.ofString "bool") _] _ _) _ _); refine je_isi b.isinstance b.bool boot_bool (by decide) ?_) | ((with_reducible show JE _ _ _ (.Call _ [_, .Name (Str.ofString "tuple") _] _ _) _ _); refine je_isi b.isinstance b.tuple boot_tuple (by decide) ?_) | ((with_reducible show JE _ _ _ (.Call _ [_, .Name (Str.ofString "list") _] _ _) _ _); refine je_isi b.isinstance b.list boot_list (by decide) ?_) | ((with_reducible show JE _ _ _ (.Call _ [_, .Name (Str.ofString "dict") _] _ _) _ _); refine je_isi b.isinstance b.dict boot_dict (by decide) ?_) | ((with_reducible show JE _ _ _ (.Call _ [_, .Tuple [.Name (Str.ofString "tuple") _, .Name (Str.ofString "list") _] _ _] _ _) _ _); refine je_isiP b.isinstance b.tuple boot_tuple b.list boot_list (by decide) (by decide) ?_)) | ((with_reducible show JE _ _ _ (.Call (.Name (Str.ofString "len") _) _ _ _) _ _); refine je_len b.len ?_) | ((with_reducible show JE _ _ _ (.Call (.Name (Str.ofString "all") _) _ _ _) _ _); refine je_callB b.all boot_all ?_) | ((with_reducible show JE _ _ _ (.Call (.Name (Str.ofString "any") _) _ _ _) _ _); refine je_callB b.any boot_any ?_) | ((with_reducible show JE _ _ _ (.Call (.Name (Str.ofString "sorted") _) _ _ _) _ _); refine je_callB b.sorted boot_sorted ?_) | ((with_reducible show JE _ _ _ (.Call (.Name (Str.ofString "min") _) _ _ _) _ _); refine je_callB b.min boot_min ?_) | ((with_reducible show JE _ _ _ (.Call (.Name (Str.ofString "list") _) _ _ _) _ _); refine je_callT b.list boot_list ?_) | ((with_reducible show JE _ _ _ (.Call (.Name (Str.ofString "tuple") _) _ _ _) _ _); refine je_callT b.tuple boot_tuple ?_) | ((with_reducible show JE _ _ _ (.Call (.Name (Str.ofString "str") _) _ _ _) _ _); refine je_callT b.str boot_str ?_) | ((with_reducible show JE _ _ _ (.Call (.Name (Str.ofString "int") _) _ _ _) _ _); refine je_callT b.int boot_int ?_) | ((with_reducible show JE _ _ _ (.Call (.Name (Str.ofString "is_name") _) _ _ _) _ _); refine je_call gN (hr.mono (by decide)) ?_) | ((with_reducible show JE _ _ _ (.Call (.Name (Str.ofString "is_whole") _) _ _ _) _ _); refine je_call gW (hr.mono (by decide)) ?_)) | with_reducible refine je_not ?_ | with_reducible refine je_one ?_ | with_reducible refine je_and ?_ | with_reducible refine je_or ?_ | ((with_reducible show JE _ _ _ (.Compare _ [_, _] _ _) _ _); refine je_chain ?_) | ((with_reducible show JE _ _ _ (.Compare _ [_] _ _) _ _); refine je_cmp ?_) | with_reducible refine je_op ?_ | with_reducible refine je_tup ?_ | with_reducible refine je_ifExp ?_) | ((with_reducible show Exists _); refine ⟨_, rfl, ?_⟩) | ((with_reducible show ite _ _ _); first | refine ite_t rfl ?_ | refine ite_f rfl ?_) | ((with_reducible show OpD _ _ _ _ _ _); first | with_reducible refine opd_addI ?_ | with_reducible refine opd_subI ?_ | with_reducible refine opd_ltI ?_ | with_reducible refine opd_leI ?_ | with_reducible refine opd_gtI ?_ | with_reducible refine opd_geI ?_ | with_reducible refine opd_eqI ?_ | with_reducible refine opd_neI ?_ | with_reducible refine opd_eqS ?_ | with_reducible refine opd_neS ?_ | with_reducible refine opd_eqB ?_ | with_reducible refine opd_neB ?_) | ((with_reducible show JA _ _ _ _ _ _); first | with_reducible refine ja_nil ?_ | refine ja_cons ?_) | ((with_reducible show JT _ _ _ _ _ _); first | with_reducible refine jt_not ?_ | ((with_reducible show JT _ _ _ (.BoolOp .Or _ _) _ _); with_reducible refine jt_w (jw_or ?_)) | ((with_reducible show JT _ _ _ (.BoolOp .And _ _) _ _); with_reducible refine jt_w (jw_and ?_)) | ((with_reducible show JT _ _ _ (.Compare _ [_, _] _ _) _ _); refine jt_chain ?_) | ((with_reducible show JT _ _ _ (.Compare _ [_] _ _) _ _); refine jt_cmp ?_) | ((with_reducible show JT _ _ _ (.Call _ _ _ _) _ _); refine jt_val ?_)) | ((with_reducible show JW _ _ _ _ _ _); first | with_reducible refine jw_or1 ?_ | with_reducible refine jw_and1 ?_ | with_reducible refine jw_or ?_ | with_reducible refine jw_and ?_) | ((with_reducible show JSs _ _ _ _ _); first | with_reducible refine jss_one ?_ | with_reducible refine jss_cons ?_ | with_reducible refine jss_nil ?_) | ((with_reducible show JS _ _ _ _ _); first | with_reducible refine js_if ?_ | with_reducible refine js_ret ?_ | with_reducible refine js_retN ?_ | ((with_reducible show JS _ _ _ (.Expr _ _) _); refine js_expr ?_) | ((with_reducible show JS _ _ _ (.Assign [.Name _ _] _ _) _); first | ((with_reducible show JS _ _ _ (.Assign [.Name (Str.ofString "value") _] _ _) _); refine js_set 0 ?_ nd) | ((with_reducible show JS _ _ _ (.Assign [.Name (Str.ofString "at") _] _ _) _); refine js_set 1 ?_ nd))) | ((with_reducible show JG _ _ _ (.Name _ _) _ _); first | ((with_reducible show JG _ _ _ (.Name (Str.ofString "value") _) _ _); refine jg_name 0 ?_ nd) | ((with_reducible show JG _ _ _ (.Name (Str.ofString "at") _) _ _); refine jg_name 1 ?_ nd))))
theorem scIsRow : FnScope ["value", "at"] ["value"] (defScope sIsRow) := ⟨rfl, rfl, rfl, by decide +kernel, rfl, by decide +kernel, by decide +kernel⟩
theorem ok_isRow (F : Fun K "is_plan_row" "is_plan_row" sIsRow f fd) (b : Bn mg) (gN : GFn P w K mg base 1 "is_name" [] spName) (gW : GFn P w K mg base 1 "is_whole" [] spWhole) {t : Tok} (hM : mg "MOST_NUMBER" = some (.int MOST t)) : FnOk P w K mg base (L2.CX P w) 3 f fd ["value"] (spD K spRow) := by
  refine fn_d F scIsRow (fun ds M Φ Ψ h => ?_) (fun cdv A outer s H E hr ds M Φ Ψ h => ?_)
  · obtain ⟨_, ⟨d, rfl, _⟩, _⟩ := h
    rfl
  · obtain ⟨rfl, ⟨d, rfl, ⟨⟨n, hn⟩, hs⟩, hx⟩, h⟩ := h
    replace h : Φ (.bl (isRow d)) [] := h
    have hu := hr.units
    have nd := scIsRow.nd
    show JSs _ [some d, none] [] _ _
    refine jss_cons ?_
    cases d with
    | ins => cases hn
    | raw => cases hn
    | exc => cases hn
    | tup xs =>
      walk_at "jgo"
      refine ⟨_, .inr (.inl ⟨xs, rfl, rfl⟩), ?_⟩
      walk_at "jgo"
      by_cases hl : xs.length = 5
      · obtain ⟨a, b', c, d, e, rfl⟩ : ∃ a b c d e, xs = [a, b, c, d, e] := match xs, hl with | [a, b, c, d, e], _ => ⟨_, _, _, _, _, rfl⟩
        have ha := hx _ rfl a (by simp)
        have hb := hx _ rfl b' (by simp)
        have hc := hx _ rfl c (by simp)
        have hd := hx _ rfl d (by simp)
        have he := hx _ rfl e (by simp)
        have hr' : isRow (.tup [a, b', c, d, e]) = (isName a && isName c && (num b' && (num d && num e))) := rfl
        rw [hr'] at h
        walk_at "jgo"
        refine je_ixT ?_
        walk_at "jgo"
        refine ⟨_, _, a, rfl, rfl, rfl, ja_nil (use_name ha ?_)⟩
        walk_at "jgo"
        refine ite_2 (fun c1 => ite_t rfl ?_) fun c1 => ?_
        · walk_at "jgo"
          rw [Bool.not_eq_true'] at c1
          rw [c1] at h
          exact h
        · rw [Bool.not_eq_false'] at c1
          rw [c1] at h
          walk_at "jgo"
          refine je_ixT ?_
          walk_at "jgo"
          refine ⟨_, _, c, rfl, rfl, rfl, ja_nil (use_name hc ?_)⟩
          walk_at "jgo"
          refine ite_2 (fun c2 => ?_) fun c2 => ?_
          · walk_at "jgo"
            rw [Bool.not_eq_true'] at c2
            rw [c2] at h
            exact h
          · rw [Bool.not_eq_false'] at c2
            rw [c2] at h
            walk_at "jgo"
            refine je_lc (own := [("at", 1)]) nd blk_ok (ji_tup ?_)
            walk_at "jgo"
            refine ⟨by decide, [.int 1, .int 3, .int 4], rfl, ?_⟩
            refine lc_map (fun x => match x with | .int 1 => .bl (num b') | .int 3 => .bl (num d) | _ => .bl (num e)) (by decide) ?_ fun x hx => ?_
            · refine ja_nil (cd_all (bs := [num b', num d, num e]) rfl ?_)
              have q : ([num b', num d, num e].all id) = (num b' && (num d && num e)) := by simp
              rw [q]
              exact h
            · refine ⟨[1], [x], by decide, fun s H C cl fp => jc_name 1 nd, fun s H C cl fp => ?_⟩
              show JE _ [some (.tup [a, b', c, d, e]), some x] _ _ _ _
              walk_at "jgo"
              refine je_ixT ?_
              walk_at "jgo"
              have hx3 : x = .int 1 ∨ x = .int 3 ∨ x = .int 4 := by simpa using hx
              rcases hx3 with rfl | rfl | rfl
              · refine ⟨_, _, b', rfl, rfl, rfl, ?_⟩
                walk_at "jgo"
                exact je_glob (v := .int MOST) (d := .int MOST) hM ⟨t, rfl⟩ (fun _ => .int _) (ja_nil (use_whole hb (.inr ⟨_, rfl⟩) ⟨rfl, rfl⟩))
              · refine ⟨_, _, d, rfl, rfl, rfl, ?_⟩
                walk_at "jgo"
                exact je_glob (v := .int MOST) (d := .int MOST) hM ⟨t, rfl⟩ (fun _ => .int _) (ja_nil (use_whole hd (.inr ⟨_, rfl⟩) ⟨rfl, rfl⟩))
              · refine ⟨_, _, e, rfl, rfl, rfl, ?_⟩
                walk_at "jgo"
                exact je_glob (v := .int MOST) (d := .int MOST) hM ⟨t, rfl⟩ (fun _ => .int _) (ja_nil (use_whole he (.inr ⟨_, rfl⟩) ⟨rfl, rfl⟩))
      · refine ite_t (by simpa using fun z : (xs.length : Int) = 5 => hl (by omega)) (ite_t rfl ?_)
        walk_at "jgo"
        have e : isRow (.tup xs) = false := by
          unfold isRow
          split
          · rename_i q
            cases q
            exact absurd rfl hl
          · rfl
        rw [e] at h
        exact h
    | _ =>
      walk_at "jgo"
      exact h
end
end
end K27
end

section
set_option Elab.async false
set_option linter.all false
set_option maxRecDepth 100000
set_option maxHeartbeats 4000000
set_option pp.maxSteps 700
set_option hygiene false
open PySem PyProof.Rows L2 DL
namespace K27
open PySem PySem.Spec PyProof.Rows L2 DL
abbrev sBadInit : Stmt := inClass (top 2) 0
abbrev sInit : Stmt := inClass (top 11) 0
abbrev sEq : Stmt := inClass (top 11) 1
abbrev sLen : Stmt := inClass (top 11) 2
abbrev sRowAt : Stmt := inClass (top 11) 3
def key2 : D → D
  | .tup xs => .tup (xs.take 2)
  | _ => .non
def val3 : D → D
  | .tup xs => .tup (xs.drop 2)
  | _ => .non
noncomputable def seen (xs : List D) : List (D × D) := xs.foldl (fun acc r => ptD acc (key2 r) (.bl true)) []
noncomputable def told (xs : List D) : List (D × D) := xs.foldl (fun acc r => ptD acc (key2 r) (val3 r)) []
noncomputable def planOk (xs : List D) : Bool := xs.all isRow && !decide (((seen xs).length : Int) < (xs.length : Int))
noncomputable def planOf : D → Option (List D)
  | .tup xs => if planOk xs = true then some xs else none
  | .lst xs => if planOk xs = true then some xs else none
  | _ => none
noncomputable def planIns (C : Addr) (xs : List D) : List (Str × D) := putD "_told" (.dT (told (sortD xs))) (putD "rows" (.tup (sortD xs)) [])
/-- what the plan is asked to be made of -/
def okRows (rows : D) : Prop := (∃ n, tyN rows = some n) ∧ ∀ xs, rows = .tup xs ∨ rows = .lst xs → xs.length ≤ 1000 ∧ ∀ x ∈ xs, okr x
def exRow (CB : Addr) (rows : D) : Exn := (CB, [("row", rows), ("what", .str "plan")])
noncomputable def spInit (C CB : Addr) : DL.Spec := fun ds M Φ Ψ => ∃ t rows, ds = [.raw (.ref t), rows] ∧ M = [(t, .ins C [])] ∧ okRows rows ∧ (∀ xs, planOf rows = some xs → Φ .non [(t, .ins C (planIns C xs))]) ∧ (planOf rows = none → Ψ (exRow CB rows) M)
theorem planOf_of {rows : D} {xs : List D} (h : rows = .tup xs ∨ rows = .lst xs) : planOf rows = if planOk xs = true then some xs else none := by
  rcases h with rfl | rfl <;> rfl
theorem isName_str {d : D} (h : isName d = true) : ∃ a, d = .str a := by
  cases d with
  | str a => exact ⟨a, rfl⟩
  | _ => simp [isName] at h
theorem num_int {d : D} (h : num d = true) : ∃ m, d = .int m ∧ 0 ≤ m ∧ m ≤ MOST := by
  cases d with
  | int m =>
    have h : (decide ((0 : Int) ≤ m) && decide (m ≤ MOST)) = true := h
    rw [Bool.and_eq_true] at h
    exact ⟨m, rfl, of_decide_eq_true h.1, of_decide_eq_true h.2⟩
  | _ => simp [num, isWhole] at h
theorem isRow_is {x : D} (h : isRow x = true) : ∃ (a : Str) (m : Int) (c : Str) (k e : Int), x = .tup [.str a, .int m, .str c, .int k, .int e] := by
  unfold isRow at h
  split at h
  · rename_i a b c d e
    simp only [Bool.and_eq_true] at h
    obtain ⟨⟨h1, h2⟩, h3, h4, h5⟩ := h
    obtain ⟨a, rfl⟩ := isName_str h1
    obtain ⟨c, rfl⟩ := isName_str h2
    obtain ⟨b, rfl, _⟩ := num_int h3
    obtain ⟨d, rfl, _⟩ := num_int h4
    obtain ⟨e, rfl, _⟩ := num_int h5
    exact ⟨a, b, c, d, e, rfl⟩
  · cases h
theorem isRow_shape {x : D} (h : isRow x = true) : ∃ (a : Str) (m : Int) (r : List D), x = .tup (.str a :: .int m :: r) := by
  obtain ⟨a, m, c, k, e, rfl⟩ := isRow_is h
  exact ⟨a, m, _, rfl⟩
theorem slD_key {a b : D} {r : List D} : slD (.tup (a :: b :: r)) none (some 2) = some (.tup [a, b]) := by
  have e : HT.sIx (a :: b :: r).length (a :: b :: r).length (some 2) = 2 := by
    rw [show (2 : Int) = ((2 : Nat) : Int) from rfl, HT.sIx_nat]
    simp only [List.length_cons]
    omega
  show some (D.tup (DL.cutD (a :: b :: r) none (some 2))) = _
  unfold DL.cutD
  rw [e]
  rfl
theorem slD_val {a b : D} {r : List D} : slD (.tup (a :: b :: r)) (some 2) none = some (.tup r) := by
  have e : HT.sIx (a :: b :: r).length 0 (some 2) = 2 := by
    rw [show (2 : Int) = ((2 : Nat) : Int) from rfl, HT.sIx_nat]
    simp only [List.length_cons]
    omega
  show some (D.tup (DL.cutD (a :: b :: r) (some 2) none)) = _
  unfold DL.cutD
  rw [e, HT.sIx_none]
  simp
theorem rows_sort {xs : List D} (h : ∀ x ∈ xs, isRow x = true) : xs.all plain = true ∧ PySem.W.AllAlike (xs.map py) ∧ PySem.W.Sortable (xs.map py) ∧ ∀ x ∈ xs, (py x).depth ≤ 32 := by
  refine ⟨List.all_eq_true.mpr fun x hx => ?_, fun d hd e he => ?_, .inl fun d hd => ?_, fun x hx => ?_⟩
  · obtain ⟨a, m, c, k, e, rfl⟩ := isRow_is (h x hx)
    rfl
  · obtain ⟨x, hx, rfl⟩ := List.mem_map.mp hd
    obtain ⟨y, hy, rfl⟩ := List.mem_map.mp he
    obtain ⟨a, m, c, k, e, rfl⟩ := isRow_is (h x hx)
    obtain ⟨a, m, c, k, e, rfl⟩ := isRow_is (h y hy)
    rfl
  · obtain ⟨x, hx, rfl⟩ := List.mem_map.mp hd
    obtain ⟨a, m, c, k, e, rfl⟩ := isRow_is (h x hx)
    exact ⟨_, _, rfl⟩
  · obtain ⟨a, m, c, k, e, rfl⟩ := isRow_is (h x hx)
    exact (by decide : 1 ≤ 32)
theorem cd_listA {X : Cx} {M : Mem} {Φ : D → Mem → Prop} {d : D} {xs : List D} (hx : d = .tup xs ∨ d = .lst xs) (h : Φ (.lst xs) M) : CallD X (.type "list") [d] M Φ := by
  rcases hx with rfl | rfl
  · exact cd_listT h
  · exact cd_list h
theorem ptD_length (kvs : List (D × D)) (k d : D) : (ptD kvs k d).length ≤ kvs.length + 1 := by
  unfold ptD
  split
  · rw [List.length_map]
    omega
  · rw [List.length_append]
    exact Nat.le_refl _
section
variable {P : Program} {w : World} {K : PySem.W.Frag} {mg : Str → Option Value} {base : Heap} {f : Addr} {fd : FuncData}
theorem scBad : FnScope ["self", "what", "row"] ["self", "what", "row"] (defScope sBadInit) := ⟨rfl, rfl, rfl, by decide +kernel, rfl, by decide +kernel, by decide +kernel⟩
theorem ok_bad {CB : Addr} (F : Fun K "__init__" "BadRow.__init__" sBadInit f fd) (T : OexC K CB) (h1 : PySem.W.findIn K (.ref CB) "what" = some none) (h2 : PySem.W.findIn K (.ref CB) "row" = some none) : FnOk P w K mg base (L2.CX P w) 1 f fd ["self", "what", "row"] (spXi CB ["what", "row"]) :=
  ok_xi2 F scBad T h1 h2 rfl rfl rfl rfl (by decide) (by decide) (by decide) (by decide) (fun _ => rfl) (fun _ => rfl)
theorem ji_seqv {X : Cx} {Γ : Sl} {M : Mem} {Φ : List D → Mem → Prop} {Ψ : XP} {tg : Expr} {pos : Pos} (i : Nat) {x : Str} {xs : List D} {d : D} (hd : Γ[i]? = some (some d)) (hx : d = .tup xs ∨ d = .lst xs) (h : Φ xs M) (hN : X.N[i]? = some x := by rfl) (hv : Vis X.env.scope x := by first | exact Or.inl rfl | exact Or.inr (Or.inl rfl) | exact Or.inr (Or.inr rfl))
    (hdb : (x == ("__debug__" : Str)) = false := by decide) (hcd : (x == ("__classdict__" : Str)) = false := by decide) : JI X Γ M tg (.Name x pos) Φ Ψ := by
  rcases hx with rfl | rfl
  · exact ji_tup (je_var i hd ⟨xs, rfl, h⟩ hN hv hdb hcd)
  · exact ji_list (je_var i hd ⟨xs, rfl, h⟩ hN hv hdb hcd)
section
local macro_rules | `(tactic| walk_at "jgo") => `(tactic| repeat' (first | ((with_reducible show JE _ _ _ _ _ _); first | ((with_reducible show JE _ _ _ (.Constant _ _ _) _ _); first | with_reducible refine je_int ?_ | with_reducible refine je_str ?_ | with_reducible refine je_bl ?_ | with_reducible refine je_non ?_) | ((with_reducible show JE _ _ _ (.Name _ _) _ _); first | ((with_reducible show JE _ _ _ (.Name (Str.ofString "self") _) _ _); refine je_var 0 rfl ?_) | ((with_reducible show JE _ _ _ (.Name (Str.ofString "rows") _) _ _); refine je_var 1 rfl ?_) | ((with_reducible show JE _ _ _ (.Name (Str.ofString "row") _) _ _); refine je_var 2 rfl ?_)) | ((with_reducible show JE _ _ _ (.Call (.Name _ _) _ _ _) _ _); first | ((with_reducible show JE _ _ _ (.Call (.Name (Str.ofString "isinstance") _) _ _ _) _ _); first | ((with_reducible show JE _ _ _ (.Call _ [_, .Name (Str.ofString "str") _] _ _) _ _); refine je_isi b.isinstance b.str boot_str (by decide) ?_) | ((with_reducible show JE _ _ _ (.Call _ [_, .Name (Str.ofString "int") _] _ _) _ _); refine je_isi b.isinstance b.int boot_int (by decide) ?_) | ((with_reducible show JE _ _ _ (.Call _ [_, .Name (Str.ofString "bool") _] _ _) _ _); refine je_isi b.isinstance b.bool boot_bool (by decide) ?_) | ((with_reducible show JE _ _ _ (.Call _ [_, .Name (Str.ofString "tuple") _] _ _) _ _); refine je_isi b.isinstance b.tuple boot_tuple (by decide) ?_) | ((with_reducible show JE _ _ _ (.Call _ [_, .Name (Str.ofString "list") _] _ _) _ _); refine je_isi b.isinstance b.list boot_list (by decide) ?_) | ((with_reducible show JE _ _ _ (.Call _ [_, .Name (Str.ofString "dict") _] _ _) _ _); refine je_isi b.isinstance b.dict boot_dict (by decide) ?_) | ((with_reducible show JE _ _ _ (.Call _ [_, .Tuple [.Name (Str.ofString "tuple") _, .Name (Str.ofString "list") _] _ _] _ _) _ _); refine je_isiP b.isinstance b.tuple boot_tuple b.list boot_list (by decide) (by decide) ?_)) | ((with_reducible show JE _ _ _ (.Call (.Name (Str.ofString "len") _) _ _ _) _ _); refine je_len b.len ?_) | ((with_reducible show JE _ _ _ (.Call (.Name (Str.ofString "all") _) _ _ _) _ _); refine je_callB b.all boot_all ?_) | ((with_reducible show JE _ _ _ (.Call (.Name (Str.ofString "any") _) _ _ _) _ _); refine je_callB b.any boot_any ?_) | ((with_reducible show JE _ _ _ (.Call (.Name (Str.ofString "sorted") _) _ _ _) _ _); refine je_callB b.sorted boot_sorted ?_) | ((with_reducible show JE _ _ _ (.Call (.Name (Str.ofString "min") _) _ _ _) _ _); refine je_callB b.min boot_min ?_) | ((with_reducible show JE _ _ _ (.Call (.Name (Str.ofString "list") _) _ _ _) _ _); refine je_callT b.list boot_list ?_) | ((with_reducible show JE _ _ _ (.Call (.Name (Str.ofString "tuple") _) _ _ _) _ _); refine je_callT b.tuple boot_tuple ?_) | ((with_reducible show JE _ _ _ (.Call (.Name (Str.ofString "str") _) _ _ _) _ _); refine je_callT b.str boot_str ?_) | ((with_reducible show JE _ _ _ (.Call (.Name (Str.ofString "int") _) _ _ _) _ _); refine je_callT b.int boot_int ?_) | ((with_reducible show JE _ _ _ (.Call (.Name (Str.ofString "is_listed") _) _ _ _) _ _); refine je_call gL (hr.mono (by decide)) ?_) | ((with_reducible show JE _ _ _ (.Call (.Name (Str.ofString "is_plan_row") _) _ _ _) _ _); refine je_call gR (hr.mono (by decide)) ?_)) | with_reducible refine je_not ?_ | with_reducible refine je_one ?_ | with_reducible refine je_and ?_ | with_reducible refine je_or ?_ | ((with_reducible show JE _ _ _ (.Compare _ [_, _] _ _) _ _); refine je_chain ?_) | ((with_reducible show JE _ _ _ (.Compare _ [_] _ _) _ _); refine je_cmp ?_) | with_reducible refine je_op ?_ | with_reducible refine je_tup ?_ | with_reducible refine je_ifExp ?_) | ((with_reducible show Exists _); refine ⟨_, rfl, ?_⟩) | ((with_reducible show ite _ _ _); first | refine ite_t rfl ?_ | refine ite_f rfl ?_) | ((with_reducible show OpD _ _ _ _ _ _); first | with_reducible refine opd_addI ?_ | with_reducible refine opd_subI ?_ | with_reducible refine opd_ltI ?_ | with_reducible refine opd_leI ?_ | with_reducible refine opd_gtI ?_ | with_reducible refine opd_geI ?_ | with_reducible refine opd_eqI ?_ | with_reducible refine opd_neI ?_ | with_reducible refine opd_eqS ?_ | with_reducible refine opd_neS ?_ | with_reducible refine opd_eqB ?_ | with_reducible refine opd_neB ?_) | ((with_reducible show JA _ _ _ _ _ _); first | with_reducible refine ja_nil ?_ | refine ja_cons ?_) | ((with_reducible show JT _ _ _ _ _ _); first | with_reducible refine jt_not ?_ | ((with_reducible show JT _ _ _ (.BoolOp .Or _ _) _ _); with_reducible refine jt_w (jw_or ?_)) | ((with_reducible show JT _ _ _ (.BoolOp .And _ _) _ _); with_reducible refine jt_w (jw_and ?_)) | ((with_reducible show JT _ _ _ (.Compare _ [_, _] _ _) _ _); refine jt_chain ?_) | ((with_reducible show JT _ _ _ (.Compare _ [_] _ _) _ _); refine jt_cmp ?_) | ((with_reducible show JT _ _ _ (.Call _ _ _ _) _ _); refine jt_val ?_)) | ((with_reducible show JW _ _ _ _ _ _); first | with_reducible refine jw_or1 ?_ | with_reducible refine jw_and1 ?_ | with_reducible refine jw_or ?_ | with_reducible refine jw_and ?_) | ((with_reducible show JSs _ _ _ _ _); first | with_reducible refine jss_one ?_ | with_reducible refine jss_cons ?_ | with_reducible refine jss_nil ?_) | ((with_reducible show JS _ _ _ _ _); first | with_reducible refine js_if ?_ | with_reducible refine js_ret ?_ | with_reducible refine js_retN ?_ | ((with_reducible show JS _ _ _ (.Expr _ _) _); refine js_expr ?_) | ((with_reducible show JS _ _ _ (.Assign [.Name _ _] _ _) _); first | ((with_reducible show JS _ _ _ (.Assign [.Name (Str.ofString "self") _] _ _) _); refine js_set 0 ?_ nd) | ((with_reducible show JS _ _ _ (.Assign [.Name (Str.ofString "rows") _] _ _) _); refine js_set 1 ?_ nd) | ((with_reducible show JS _ _ _ (.Assign [.Name (Str.ofString "row") _] _ _) _); refine js_set 2 ?_ nd))) | ((with_reducible show JG _ _ _ (.Name _ _) _ _); first | ((with_reducible show JG _ _ _ (.Name (Str.ofString "self") _) _ _); refine jg_name 0 ?_ nd) | ((with_reducible show JG _ _ _ (.Name (Str.ofString "rows") _) _ _); refine jg_name 1 ?_ nd) | ((with_reducible show JG _ _ _ (.Name (Str.ofString "row") _) _ _); refine jg_name 2 ?_ nd))))
theorem scInit : FnScope ["self", "rows", "row"] ["self", "rows"] (defScope sInit) := ⟨rfl, rfl, rfl, by decide +kernel, rfl, by decide +kernel, by decide +kernel⟩
theorem ok_init {C CB : Addr} (F : Fun K "__init__" "Plan.__init__" sInit f fd) (b : Bn mg) (gL : GFn P w K mg base 1 "is_listed" [] spListed) (gR : GFn P w K mg base 3 "is_plan_row" [] spRow) (gB : GXc P w K mg base 1 "BadRow" CB ["what", "row"])
    (cl : Cls K C) (n1 : NoAttr K C "rows") (n2 : NoAttr K C "_told") : FnOk P w K mg base (L2.CX P w) 5 f fd ["self", "rows"] (spD K (spInit C CB)) := by
  refine fn_d F scInit (fun ds M Φ Ψ h => ?_) (fun cdv A outer s H E hr ds M Φ Ψ h => ?_)
  · obtain ⟨t, rows, rfl, _⟩ := h
    rfl
  · obtain ⟨t, rows, rfl, rfl, ⟨⟨n, hn⟩, hx⟩, hok, hbad⟩ := h
    have hu := hr.units
    have nd := scInit.nd
    show JSs _ [some (.raw (.ref t)), some rows, none] [(t, .ins C [])] _ _
    refine jss_cons ?_
    walk_at "jgo"
    refine .none ⟨rfl, ⟨rows, n, rfl, hn⟩, ?_⟩
    walk_at "jgo"
    by_cases hl : isListed rows = true
    · obtain ⟨xs, hxs⟩ : ∃ xs, rows = .tup xs ∨ rows = .lst xs := by
        cases rows with
        | tup xs => exact ⟨xs, .inl rfl⟩
        | lst xs => exact ⟨xs, .inr rfl⟩
        | _ => cases hl
      obtain ⟨hlen, hrow⟩ := hx xs hxs
      refine ite_f (by show (!isListed rows) = false; rw [hl]; rfl) ?_
      walk_at "jgo"
      refine je_lc (own := [("row", 2)]) nd blk_ok (ji_seqv 1 rfl hxs ?_)
      refine lc_map (fun x => .bl (isRow x)) (by omega) ?_ fun x hx => ?_
      · refine ja_nil ?_
        have e1 : xs.map (fun x => D.bl (isRow x)) = (xs.map isRow).map D.bl := by rw [List.map_map]; rfl
        rw [e1]
        refine cd_all rfl ?_
        have e2 : (xs.map isRow).all id = xs.all isRow := by rw [List.all_map]; rfl
        rw [e2]
        walk_at "jgo"
        refine ite_2 (fun c1 => ?_) fun c1 => ?_
        · walk_at "jgo"
          refine js_raise gB (hr.mono (by decide)) ?_
          walk_at "jgo"
          refine ⟨rfl, by show 2 ≤ 900; decide, hbad ?_⟩
          rw [Bool.not_eq_true'] at c1
          rw [planOf_of hxs]
          unfold planOk
          rw [c1]
          rfl
        · rw [Bool.not_eq_false'] at c1
          walk_at "jgo"
          refine je_dc (own := [("row", 2)]) (u1 hr) nd blk_ok (ji_seqv 1 rfl hxs ?_)
          have rowOf : ∀ x ∈ xs, ∃ (a : Str) (m : Int) (r : List D), x = .tup (.str a :: .int m :: r) := fun x hx => isRow_shape (List.all_eq_true.mp c1 x hx)
          refine ⟨fun i acc M2 => acc = seen (xs.take i) ∧ M2 = _ ∧ acc.length ≤ i, ⟨rfl, rfl, Nat.le_refl _⟩, fun acc M2 hacc => ?_, fun i x acc M2 hx hacc => ?_⟩
          · obtain ⟨h1, rfl, h2⟩ := hacc
            rw [List.take_length] at h1
            subst h1
            refine ⟨_, .inr (.inr (.inr (.inr (.inl ⟨_, rfl, rfl⟩)))), ?_⟩
            refine je_len b.len (je_var 1 rfl ⟨xs.length, by rcases hxs with rfl | rfl <;> simp, ?_⟩)
            walk_at "jgo"
            refine ite_2 (fun c2 => ?_) fun c2 => ?_
            · walk_at "jgo"
              refine js_raise gB (hr.mono (by decide)) ?_
              walk_at "jgo"
              refine ⟨rfl, by show 2 ≤ 900; decide, hbad ?_⟩
              rw [planOf_of hxs]
              unfold planOk
              rw [c1, c2]
              rfl
            · have good : planOf rows = some xs := by
                rw [planOf_of hxs]
                unfold planOk
                rw [c1, c2]
                rfl
              walk_at "jgo"
              refine js_fld 0 ?_
              walk_at "jgo"
              refine cd_listA hxs ?_
              walk_at "jgo"
              obtain ⟨q1, q2, q3, q4⟩ := rows_sort (fun x hx => List.all_eq_true.mp c1 x hx)
              refine cd_sorted hu q1 q2 q3 q4 ?_
              walk_at "jgo"
              refine cd_tuple ?_
              walk_at "jgo"
              refine ⟨t, C, [], rfl, rfl, cl, n1, by show 0 < 900; decide, ?_⟩
              walk_at "jgo"
              refine js_fld 0 ?_
              refine je_dc (own := [("row", 2)]) (u1 hr) nd blk_ok (ji_tup (je_fldC 0 ?_))
              walk_at "jgo"
              refine ⟨t, C, _, _, rfl, rfl, cl, n1, rfl, sortD xs, rfl, ?_⟩
              have rowS : ∀ x ∈ sortD xs, ∃ (a : Str) (m : Int) (r : List D), x = .tup (.str a :: .int m :: r) := fun x hx => rowOf x ((List.mergeSort_perm xs leD).mem_iff.mp hx)
              have lenS : (sortD xs).length = xs.length := (List.mergeSort_perm xs leD).length_eq
              refine ⟨fun i acc M2 => acc = told ((sortD xs).take i) ∧ M2 = _ ∧ acc.length ≤ i, ⟨rfl, rfl, Nat.le_refl _⟩, fun acc M2 hacc => ?_, fun i x acc M2 hx hacc => ?_⟩
              · obtain ⟨h1, rfl, h2⟩ := hacc
                rw [List.take_length] at h1
                subst h1
                walk_at "jgo"
                refine ⟨t, C, _, rfl, rfl, cl, n2, by show 1 < 900; decide, ?_⟩
                exact hok xs good
              · obtain ⟨rfl, rfl, h2⟩ := hacc
                have hi := (List.getElem?_eq_some_iff.mp hx).1
                refine ⟨by omega, [2], [x], by decide, fun s H C cl fp => jc_name 2 nd, fun s H C cl fp => jts_nil (ite_t rfl fun s H C cl fp => ?_)⟩
                show JE _ [some (.raw (.ref t)), some rows, some x] _ _ _ _
                obtain ⟨a, m, r, rfl⟩ := rowS x (List.mem_of_getElem? hx)
                refine je_slice ?_
                walk_at "jgo"
                refine jo_none (jo_some ?_)
                walk_at "jgo"
                refine ⟨True.intro, _, slD_key, [.inr a, .inl m], rfl, List.cons_ne_nil _ _, fun s H C cl fp => ?_⟩
                refine je_slice ?_
                walk_at "jgo"
                refine jo_some ?_
                walk_at "jgo"
                refine jo_none ⟨True.intro, _, slD_val, ?_, rfl, ?_⟩
                · unfold told
                  rw [take_next hx, List.foldl_append]
                  rfl
                · have := ptD_length (told ((sortD xs).take i)) (.tup [.str a, .int m]) (.tup r)
                  omega
          · obtain ⟨rfl, rfl, h2⟩ := hacc
            have hi := (List.getElem?_eq_some_iff.mp hx).1
            refine ⟨by omega, [2], [x], by decide, fun s H C cl fp => jc_name 2 nd, fun s H C cl fp => jts_nil (ite_t rfl fun s H C cl fp => ?_)⟩
            show JE _ [some (.raw (.ref t)), some rows, some x] _ _ _ _
            obtain ⟨a, m, r, rfl⟩ := rowOf x (List.mem_of_getElem? hx)
            refine je_slice ?_
            walk_at "jgo"
            refine jo_none (jo_some ?_)
            walk_at "jgo"
            refine ⟨True.intro, _, slD_key, [.inr a, .inl m], rfl, List.cons_ne_nil _ _, fun s H C cl fp => ?_⟩
            walk_at "jgo"
            refine ⟨?_, rfl, ?_⟩
            · unfold seen
              rw [take_next hx, List.foldl_append]
              rfl
            · have := ptD_length (seen (xs.take i)) (.tup [.str a, .int m]) (.bl true)
              omega
      · refine ⟨[2], [x], by decide, fun s H C cl fp => jc_name 2 nd, fun s H C cl fp => ?_⟩
        show JE _ [some (.raw (.ref t)), some rows, some x] _ _ _ _
        walk_at "jgo"
        exact .none ⟨rfl, ⟨x, rfl, hrow x hx⟩, rfl, rfl⟩
    · refine ite_t (by show (!isListed rows) = true; rw [Bool.not_eq_true] at hl; rw [hl]; rfl) ?_
      walk_at "jgo"
      refine js_raise gB (hr.mono (by decide)) ?_
      walk_at "jgo"
      refine ⟨rfl, by show 2 ≤ 900; decide, hbad ?_⟩
      cases rows with
      | tup xs => exact absurd rfl hl
      | lst xs => exact absurd rfl hl
      | _ => rfl
end
end
end K27
end

section
set_option Elab.async false
set_option linter.all false
set_option maxRecDepth 100000
set_option maxHeartbeats 4000000
set_option pp.maxSteps 700
set_option hygiene false
open PySem PyProof.Rows L2 DL
namespace K27
open PySem PySem.Spec PyProof.Rows L2 DL
theorem planIns_rows (C : Addr) (xs : List D) : (planIns C xs).lookup ("rows" : Str) = some (D.tup (sortD xs)) := rfl
theorem planIns_told (C : Addr) (xs : List D) : (planIns C xs).lookup ("_told" : Str) = some (D.dT (told (sortD xs))) := rfl
theorem planIns_no (C : Addr) (xs : List D) (m : Str) (h1 : m ≠ "rows") (h2 : m ≠ "_told") : (planIns C xs).lookup m = none := by
  show List.lookup m [(("rows" : Str), D.tup (sortD xs)), (("_told" : Str), D.dT (told (sortD xs)))] = none
  rw [List.lookup_cons, beq_eq_false_iff_ne.mpr h1]
  simp only
  rw [List.lookup_cons, beq_eq_false_iff_ne.mpr h2]
  rfl
def rowsOk (xs : List D) : Prop := xs.length ≤ 1000 ∧ ∀ x ∈ xs, isRow x = true
theorem asc_ok {z : Str} (h : Txt.isascii z = true) : PyData.strOk z = true := by
  unfold Txt.isascii at h
  unfold PyData.strOk
  rw [Array.all_eq_true] at *
  intro i hi
  have := h i hi
  simp only [decide_eq_true_eq] at *
  omega
theorem name_ok {z : Str} (h : isName (.str z) = true) : PyData.strOk z = true := by
  have h : (decide (1 ≤ (z.length : Int)) && decide ((z.length : Int) ≤ 12) && Txt.isascii z && Txt.isalnum z && Txt.islower z && Txt.isalpha ⟨#[z.cps.toList.headD 0]⟩) = true := h
  simp only [Bool.and_eq_true] at h
  exact asc_ok h.1.1.1.2
theorem isRow_is' {x : D} (h : isRow x = true) : ∃ (a : Str) (m : Int) (c : Str) (k e : Int), x = .tup [.str a, .int m, .str c, .int k, .int e] ∧ isName (.str a) = true ∧ isName (.str c) = true ∧ num (.int m) = true ∧ num (.int k) = true ∧ num (.int e) = true := by
  obtain ⟨a, m, c, k, e, rfl⟩ := isRow_is h
  have h : (isName (.str a) && isName (.str c) && (num (.int m) && (num (.int k) && num (.int e)))) = true := h
  simp only [Bool.and_eq_true] at h
  exact ⟨a, m, c, k, e, rfl, h.1.1, h.1.2, h.2.1, h.2.2.1, h.2.2.2⟩
theorem fit_tup {xs : List D} (h1 : ∀ x ∈ xs, plain x = true ∧ (py x).canLay0 = true ∧ (py x).depth ≤ 60) : fit (.tup xs) = true := by
  have a : ∀ ys : List D, (∀ x ∈ ys, plain x = true ∧ (py x).canLay0 = true ∧ (py x).depth ≤ 60) → plainA ys = true ∧ PyData.canLayAll0 (pyA ys) = true ∧ PyData.depthAll (pyA ys) ≤ 60 := by
    intro ys
    induction ys with
    | nil => exact fun _ => ⟨rfl, rfl, Nat.zero_le _⟩
    | cons y ys ih =>
      intro h
      obtain ⟨i1, i2, i3⟩ := ih fun x hx => h x (List.mem_cons_of_mem _ hx)
      obtain ⟨j1, j2, j3⟩ := h y List.mem_cons_self
      refine ⟨by rw [plainA, j1, i1]; rfl, by rw [pyA, PyData.canLayAll0, j2, i2]; rfl, ?_⟩
      rw [pyA, PyData.depthAll]
      omega
  obtain ⟨i1, i2, i3⟩ := a xs h1
  show (plain (.tup xs) && (PyData.canLay0 (py (.tup xs)) && decide ((py (.tup xs)).depth ≤ 64))) = true
  have e1 : plain (.tup xs) = true := i1
  have e2 : PyData.canLay0 (py (.tup xs)) = true := i2
  have e3 : (py (.tup xs)).depth ≤ 64 := by
    show PyData.depthAll (pyA xs) + 1 ≤ 64
    omega
  rw [e1, e2, decide_eq_true e3]
  rfl
theorem row_fit {x : D} (h : isRow x = true) : plain x = true ∧ (py x).canLay0 = true ∧ (py x).depth ≤ 60 := by
  obtain ⟨a, m, c, k, e, rfl, ha, hc, _⟩ := isRow_is' h
  refine ⟨rfl, ?_, (by decide : 1 ≤ 60)⟩
  show (PyData.strOk a && (true && (PyData.strOk c && (true && (true && true))))) = true
  rw [name_ok ha, name_ok hc]
  rfl
theorem sort_mem {xs : List D} {x : D} : x ∈ sortD xs ↔ x ∈ xs := (List.mergeSort_perm xs leD).mem_iff
theorem sort_length {xs : List D} : (sortD xs).length = xs.length := (List.mergeSort_perm xs leD).length_eq
theorem rows_fit {xs : List D} (h : rowsOk xs) : fit (.tup (sortD xs)) = true := fit_tup fun x hx => row_fit (h.2 x (sort_mem.mp hx))
noncomputable def rowAt (xs : List D) (p m : D) : D := if isName p = true then (if isWhole m (.int 0) .non = true then (lkD (told (sortD xs)) (.tup [p, m])).getD .non else .non) else .non
noncomputable def spEq (C : Addr) : DL.Spec := fun ds M Φ _ => ∃ xs y, ds = [.ins C (planIns C xs), y] ∧ M = [] ∧ rowsOk xs ∧ ((∃ ys, y = .ins C (planIns C ys) ∧ rowsOk ys ∧ Φ (.bl (eqd (.tup (sortD xs)) (.tup (sortD ys)))) []) ∨ ∃ ys, y = .tup ys ∧ Φ (.bl false) [])
noncomputable def spLen (C : Addr) : DL.Spec := fun ds M Φ _ => ∃ xs, ds = [.ins C (planIns C xs)] ∧ M = [] ∧ Φ (.int (xs.length : Nat)) []
noncomputable def spRowAt (C : Addr) : DL.Spec := fun ds M Φ _ => ∃ xs p m, ds = [.ins C (planIns C xs), p, m] ∧ M = [] ∧ rowsOk xs ∧ okv p ∧ okv m ∧ Φ (rowAt xs p m) []
section
variable {P : Program} {w : World} {K : PySem.W.Frag} {mg : Str → Option Value} {base : Heap} {f : Addr} {fd : FuncData} {C : Addr}
section
local macro_rules | `(tactic| walk_at "jgo") => `(tactic| repeat' (first | ((with_reducible show JE _ _ _ _ _ _); first | ((with_reducible show JE _ _ _ (.Constant _ _ _) _ _); first | with_reducible refine je_int ?_ | with_reducible refine je_str ?_ | with_reducible refine je_bl ?_ | with_reducible refine je_non ?_) | ((with_reducible show JE _ _ _ (.Name _ _) _ _); first | ((with_reducible show JE _ _ _ (.Name (Str.ofString "self") _) _ _); refine je_var 0 rfl ?_) | ((with_reducible show JE _ _ _ (.Name (Str.ofString "other") _) _ _); refine je_var 1 rfl ?_)) | ((with_reducible show JE _ _ _ (.Call (.Name _ _) _ _ _) _ _); first | ((with_reducible show JE _ _ _ (.Call (.Name (Str.ofString "isinstance") _) _ _ _) _ _); first | ((with_reducible show JE _ _ _ (.Call _ [_, .Name (Str.ofString "str") _] _ _) _ _); refine je_isi b.isinstance b.str boot_str (by decide) ?_) | ((with_reducible show JE _ _ _ (.Call _ [_, .Name (Str.ofString "int") _] _ _) _ _); refine je_isi b.isinstance b.int boot_int (by decide) ?_) | ((with_reducible show JE _ _ _ (.Call _ [_, .Name (Str.ofString "bool") _] _ _) _ _); refine je_isi b.isinstance b.bool boot_bool (by decide) ?_) | ((with_reducible show JE _ _ _ (.Call _ [_, .Name (Str.ofString "tuple") _] _ _) _ _); refine je_isi b.isinstance b.tuple boot_tuple (by decide) ?_) | ((with_reducible show JE _ _ _ (.Call _ [_, .Name (Str.ofString "list") _] _ _) _ _); refine je_isi b.isinstance b.list boot_list (by decide) ?_) | ((with_reducible show JE _ _ _ (.Call _ [_, .Name (Str.ofString "dict") _] _ _) _ _); refine je_isi b.isinstance b.dict boot_dict (by decide) ?_) | ((with_reducible show JE _ _ _ (.Call _ [_, .Tuple [.Name (Str.ofString "tuple") _, .Name (Str.ofString "list") _] _ _] _ _) _ _); refine je_isiP b.isinstance b.tuple boot_tuple b.list boot_list (by decide) (by decide) ?_)) | ((with_reducible show JE _ _ _ (.Call (.Name (Str.ofString "len") _) _ _ _) _ _); refine je_len b.len ?_) | ((with_reducible show JE _ _ _ (.Call (.Name (Str.ofString "all") _) _ _ _) _ _); refine je_callB b.all boot_all ?_) | ((with_reducible show JE _ _ _ (.Call (.Name (Str.ofString "any") _) _ _ _) _ _); refine je_callB b.any boot_any ?_) | ((with_reducible show JE _ _ _ (.Call (.Name (Str.ofString "sorted") _) _ _ _) _ _); refine je_callB b.sorted boot_sorted ?_) | ((with_reducible show JE _ _ _ (.Call (.Name (Str.ofString "min") _) _ _ _) _ _); refine je_callB b.min boot_min ?_) | ((with_reducible show JE _ _ _ (.Call (.Name (Str.ofString "list") _) _ _ _) _ _); refine je_callT b.list boot_list ?_) | ((with_reducible show JE _ _ _ (.Call (.Name (Str.ofString "tuple") _) _ _ _) _ _); refine je_callT b.tuple boot_tuple ?_) | ((with_reducible show JE _ _ _ (.Call (.Name (Str.ofString "str") _) _ _ _) _ _); refine je_callT b.str boot_str ?_) | ((with_reducible show JE _ _ _ (.Call (.Name (Str.ofString "int") _) _ _ _) _ _); refine je_callT b.int boot_int ?_)) | with_reducible refine je_not ?_ | with_reducible refine je_one ?_ | with_reducible refine je_and ?_ | with_reducible refine je_or ?_ | ((with_reducible show JE _ _ _ (.Compare _ [_, _] _ _) _ _); refine je_chain ?_) | ((with_reducible show JE _ _ _ (.Compare _ [_] _ _) _ _); refine je_cmp ?_) | with_reducible refine je_op ?_ | with_reducible refine je_tup ?_ | with_reducible refine je_ifExp ?_) | ((with_reducible show Exists _); refine ⟨_, rfl, ?_⟩) | ((with_reducible show ite _ _ _); first | refine ite_t rfl ?_ | refine ite_f rfl ?_) | ((with_reducible show OpD _ _ _ _ _ _); first | with_reducible refine opd_addI ?_ | with_reducible refine opd_subI ?_ | with_reducible refine opd_ltI ?_ | with_reducible refine opd_leI ?_ | with_reducible refine opd_gtI ?_ | with_reducible refine opd_geI ?_ | with_reducible refine opd_eqI ?_ | with_reducible refine opd_neI ?_ | with_reducible refine opd_eqS ?_ | with_reducible refine opd_neS ?_ | with_reducible refine opd_eqB ?_ | with_reducible refine opd_neB ?_) | ((with_reducible show JA _ _ _ _ _ _); first | with_reducible refine ja_nil ?_ | refine ja_cons ?_) | ((with_reducible show JT _ _ _ _ _ _); first | with_reducible refine jt_not ?_ | ((with_reducible show JT _ _ _ (.BoolOp .Or _ _) _ _); with_reducible refine jt_w (jw_or ?_)) | ((with_reducible show JT _ _ _ (.BoolOp .And _ _) _ _); with_reducible refine jt_w (jw_and ?_)) | ((with_reducible show JT _ _ _ (.Compare _ [_, _] _ _) _ _); refine jt_chain ?_) | ((with_reducible show JT _ _ _ (.Compare _ [_] _ _) _ _); refine jt_cmp ?_) | ((with_reducible show JT _ _ _ (.Call _ _ _ _) _ _); refine jt_val ?_)) | ((with_reducible show JW _ _ _ _ _ _); first | with_reducible refine jw_or1 ?_ | with_reducible refine jw_and1 ?_ | with_reducible refine jw_or ?_ | with_reducible refine jw_and ?_) | ((with_reducible show JSs _ _ _ _ _); first | with_reducible refine jss_one ?_ | with_reducible refine jss_cons ?_ | with_reducible refine jss_nil ?_) | ((with_reducible show JS _ _ _ _ _); first | with_reducible refine js_if ?_ | with_reducible refine js_ret ?_ | with_reducible refine js_retN ?_ | ((with_reducible show JS _ _ _ (.Expr _ _) _); refine js_expr ?_) | ((with_reducible show JS _ _ _ (.Assign [.Name _ _] _ _) _); first | ((with_reducible show JS _ _ _ (.Assign [.Name (Str.ofString "self") _] _ _) _); refine js_set 0 ?_ nd) | ((with_reducible show JS _ _ _ (.Assign [.Name (Str.ofString "other") _] _ _) _); refine js_set 1 ?_ nd))) | ((with_reducible show JG _ _ _ (.Name _ _) _ _); first | ((with_reducible show JG _ _ _ (.Name (Str.ofString "self") _) _ _); refine jg_name 0 ?_ nd) | ((with_reducible show JG _ _ _ (.Name (Str.ofString "other") _) _ _); refine jg_name 1 ?_ nd))))
theorem scEq : FnScope ["self", "other"] ["self", "other"] (defScope sEq) := ⟨rfl, rfl, rfl, by decide +kernel, rfl, by decide +kernel, by decide +kernel⟩
theorem ok_eq (F : Fun K "__eq__" "Plan.__eq__" sEq f fd) (b : Bn mg) (cl : Cls K C) (n1 : NoAttr K C "rows") (hC : mg "Plan" = some (.ref C)) (k1 : PySem.W.kitOne K (.type "tuple") (.ref C) = some false) (ic : IsiC K C) (k2 : PySem.W.kitOne K (.ref C) (.ref C) = some true) : FnOk P w K mg base (L2.CX P w) 1 f fd ["self", "other"] (spD K (spEq C)) := by
  refine fn_d F scEq (fun ds M Φ Ψ h => ?_) (fun cdv A outer s H E hr ds M Φ Ψ h => ?_)
  · obtain ⟨xs, y, rfl, _⟩ := h
    rfl
  · obtain ⟨xs, y, rfl, rfl, hx, h⟩ := h
    have hu := hr.units
    show JSs _ [some (.ins C (planIns C xs)), some y] [] _ _
    refine jss_one ?_
    walk_at "jgo"
    refine je_isiC' b.isinstance hC ?_
    walk_at "jgo"
    rcases h with ⟨ys, rfl, hy, h⟩ | ⟨ys, rfl, h⟩
    · refine ⟨true, .inr ⟨C, _, rfl, ic, k2⟩, ?_⟩
      walk_at "jgo"
      refine je_fld ?_
      walk_at "jgo"
      refine ⟨C, _, _, rfl, cl, n1, planIns_rows C xs, ?_⟩
      refine je_fld ?_
      walk_at "jgo"
      refine ⟨C, _, _, rfl, cl, n1, planIns_rows C ys, ?_⟩
      exact opd_eqD hu (rows_fit hx) (rows_fit hy) h
    · refine ⟨false, .inl ⟨"tuple", rfl, k1⟩, ?_⟩
      walk_at "jgo"
      exact h
end
section
local macro_rules | `(tactic| walk_at "jgo") => `(tactic| repeat' (first | ((with_reducible show JE _ _ _ _ _ _); first | ((with_reducible show JE _ _ _ (.Constant _ _ _) _ _); first | with_reducible refine je_int ?_ | with_reducible refine je_str ?_ | with_reducible refine je_bl ?_ | with_reducible refine je_non ?_) | ((with_reducible show JE _ _ _ (.Name _ _) _ _); first | ((with_reducible show JE _ _ _ (.Name (Str.ofString "self") _) _ _); refine je_var 0 rfl ?_)) | ((with_reducible show JE _ _ _ (.Call (.Name _ _) _ _ _) _ _); first | ((with_reducible show JE _ _ _ (.Call (.Name (Str.ofString "isinstance") _) _ _ _) _ _); first | ((with_reducible show JE _ _ _ (.Call _ [_, .Name (Str.ofString "str") _] _ _) _ _); refine je_isi b.isinstance b.str boot_str (by decide) ?_) | ((with_reducible show JE _ _ _ (.Call _ [_, .Name (Str.ofString "int") _] _ _) _ _); refine je_isi b.isinstance b.int boot_int (by decide) ?_) | ((with_reducible show JE _ _ _ (.Call _ [_, .Name (Str.ofString "bool") _] _ _) _ _); refine je_isi b.isinstance b.bool boot_bool (by decide) ?_) | ((with_reducible show JE _ _ _ (.Call _ [_, .Name (Str.ofString "tuple") _] _ _) _ _); refine je_isi b.isinstance b.tuple boot_tuple (by decide) ?_) | ((with_reducible show JE _ _ _ (.Call _ [_, .Name (Str.ofString "list") _] _ _) _ _); refine je_isi b.isinstance b.list boot_list (by decide) ?_) | ((with_reducible show JE _ _ _ (.Call _ [_, .Name (Str.ofString "dict") _] _ _) _ _); refine je_isi b.isinstance b.dict boot_dict (by decide) ?_) | ((with_reducible show JE _ _ _ (.Call _ [_, .Tuple [.Name (Str.ofString "tuple") _, .Name (Str.ofString "list") _] _ _] _ _) _ _); refine je_isiP b.isinstance b.tuple boot_tuple b.list boot_list (by decide) (by decide) ?_)) | ((with_reducible show JE _ _ _ (.Call (.Name (Str.ofString "len") _) _ _ _) _ _); refine je_len b.len ?_) | ((with_reducible show JE _ _ _ (.Call (.Name (Str.ofString "all") _) _ _ _) _ _); refine je_callB b.all boot_all ?_) | ((with_reducible show JE _ _ _ (.Call (.Name (Str.ofString "any") _) _ _ _) _ _); refine je_callB b.any boot_any ?_) | ((with_reducible show JE _ _ _ (.Call (.Name (Str.ofString "sorted") _) _ _ _) _ _); refine je_callB b.sorted boot_sorted ?_) | ((with_reducible show JE _ _ _ (.Call (.Name (Str.ofString "min") _) _ _ _) _ _); refine je_callB b.min boot_min ?_) | ((with_reducible show JE _ _ _ (.Call (.Name (Str.ofString "list") _) _ _ _) _ _); refine je_callT b.list boot_list ?_) | ((with_reducible show JE _ _ _ (.Call (.Name (Str.ofString "tuple") _) _ _ _) _ _); refine je_callT b.tuple boot_tuple ?_) | ((with_reducible show JE _ _ _ (.Call (.Name (Str.ofString "str") _) _ _ _) _ _); refine je_callT b.str boot_str ?_) | ((with_reducible show JE _ _ _ (.Call (.Name (Str.ofString "int") _) _ _ _) _ _); refine je_callT b.int boot_int ?_)) | with_reducible refine je_not ?_ | with_reducible refine je_one ?_ | with_reducible refine je_and ?_ | with_reducible refine je_or ?_ | ((with_reducible show JE _ _ _ (.Compare _ [_, _] _ _) _ _); refine je_chain ?_) | ((with_reducible show JE _ _ _ (.Compare _ [_] _ _) _ _); refine je_cmp ?_) | with_reducible refine je_op ?_ | with_reducible refine je_tup ?_ | with_reducible refine je_ifExp ?_) | ((with_reducible show Exists _); refine ⟨_, rfl, ?_⟩) | ((with_reducible show ite _ _ _); first | refine ite_t rfl ?_ | refine ite_f rfl ?_) | ((with_reducible show OpD _ _ _ _ _ _); first | with_reducible refine opd_addI ?_ | with_reducible refine opd_subI ?_ | with_reducible refine opd_ltI ?_ | with_reducible refine opd_leI ?_ | with_reducible refine opd_gtI ?_ | with_reducible refine opd_geI ?_ | with_reducible refine opd_eqI ?_ | with_reducible refine opd_neI ?_ | with_reducible refine opd_eqS ?_ | with_reducible refine opd_neS ?_ | with_reducible refine opd_eqB ?_ | with_reducible refine opd_neB ?_) | ((with_reducible show JA _ _ _ _ _ _); first | with_reducible refine ja_nil ?_ | refine ja_cons ?_) | ((with_reducible show JT _ _ _ _ _ _); first | with_reducible refine jt_not ?_ | ((with_reducible show JT _ _ _ (.BoolOp .Or _ _) _ _); with_reducible refine jt_w (jw_or ?_)) | ((with_reducible show JT _ _ _ (.BoolOp .And _ _) _ _); with_reducible refine jt_w (jw_and ?_)) | ((with_reducible show JT _ _ _ (.Compare _ [_, _] _ _) _ _); refine jt_chain ?_) | ((with_reducible show JT _ _ _ (.Compare _ [_] _ _) _ _); refine jt_cmp ?_) | ((with_reducible show JT _ _ _ (.Call _ _ _ _) _ _); refine jt_val ?_)) | ((with_reducible show JW _ _ _ _ _ _); first | with_reducible refine jw_or1 ?_ | with_reducible refine jw_and1 ?_ | with_reducible refine jw_or ?_ | with_reducible refine jw_and ?_) | ((with_reducible show JSs _ _ _ _ _); first | with_reducible refine jss_one ?_ | with_reducible refine jss_cons ?_ | with_reducible refine jss_nil ?_) | ((with_reducible show JS _ _ _ _ _); first | with_reducible refine js_if ?_ | with_reducible refine js_ret ?_ | with_reducible refine js_retN ?_ | ((with_reducible show JS _ _ _ (.Expr _ _) _); refine js_expr ?_) | ((with_reducible show JS _ _ _ (.Assign [.Name _ _] _ _) _); first | ((with_reducible show JS _ _ _ (.Assign [.Name (Str.ofString "self") _] _ _) _); refine js_set 0 ?_ nd))) | ((with_reducible show JG _ _ _ (.Name _ _) _ _); first | ((with_reducible show JG _ _ _ (.Name (Str.ofString "self") _) _ _); refine jg_name 0 ?_ nd))))
theorem scLen : FnScope ["self"] ["self"] (defScope sLen) := ⟨rfl, rfl, rfl, by decide +kernel, rfl, by decide +kernel, by decide +kernel⟩
theorem ok_len (F : Fun K "__len__" "Plan.__len__" sLen f fd) (b : Bn mg) (cl : Cls K C) (n1 : NoAttr K C "rows") : FnOk P w K mg base (L2.CX P w) 1 f fd ["self"] (spD K (spLen C)) := by
  refine fn_d F scLen (fun ds M Φ Ψ h => ?_) (fun cdv A outer s H E hr ds M Φ Ψ h => ?_)
  · obtain ⟨xs, rfl, _⟩ := h
    rfl
  · obtain ⟨xs, rfl, rfl, h⟩ := h
    show JSs _ [some (.ins C (planIns C xs))] [] _ _
    refine jss_one ?_
    walk_at "jgo"
    refine je_fld ?_
    walk_at "jgo"
    refine ⟨C, _, _, rfl, cl, n1, planIns_rows C xs, _, .inr (.inl ⟨_, rfl, rfl⟩), ?_⟩
    rw [sort_length]
    exact h
end
section
local macro_rules | `(tactic| walk_at "jgo") => `(tactic| repeat' (first | ((with_reducible show JE _ _ _ _ _ _); first | ((with_reducible show JE _ _ _ (.Constant _ _ _) _ _); first | with_reducible refine je_int ?_ | with_reducible refine je_str ?_ | with_reducible refine je_bl ?_ | with_reducible refine je_non ?_) | ((with_reducible show JE _ _ _ (.Name _ _) _ _); first | ((with_reducible show JE _ _ _ (.Name (Str.ofString "self") _) _ _); refine je_var 0 rfl ?_) | ((with_reducible show JE _ _ _ (.Name (Str.ofString "place") _) _ _); refine je_var 1 rfl ?_) | ((with_reducible show JE _ _ _ (.Name (Str.ofString "memory") _) _ _); refine je_var 2 rfl ?_)) | ((with_reducible show JE _ _ _ (.Call (.Name _ _) _ _ _) _ _); first | ((with_reducible show JE _ _ _ (.Call (.Name (Str.ofString "isinstance") _) _ _ _) _ _); first | ((with_reducible show JE _ _ _ (.Call _ [_, .Name (Str.ofString "str") _] _ _) _ _); refine je_isi b.isinstance b.str boot_str (by decide) ?_) | ((with_reducible show JE _ _ _ (.Call _ [_, .Name (Str.ofString "int") _] _ _) _ _); refine je_isi b.isinstance b.int boot_int (by decide) ?_) | ((with_reducible show JE _ _ _ (.Call _ [_, .Name (Str.ofString "bool") _] _ _) _ _); refine je_isi b.isinstance b.bool boot_bool (by decide) ?_) | ((with_reducible show JE _ _ _ (.Call _ [_, .Name (Str.ofString "tuple") _] _ _) _ _); refine je_isi b.isinstance b.tuple boot_tuple (by decide) ?_) | ((with_reducible show JE _ _ _ (.Call _ [_, .Name (Str.ofString "list") _] _ _) _ _); refine je_isi b.isinstance b.list boot_list (by decide) ?_) | ((with_reducible show JE _ _ _ (.Call _ [_, .Name (Str.ofString "dict") _] _ _) _ _); refine je_isi b.isinstance b.dict boot_dict (by decide) ?_) | ((with_reducible show JE _ _ _ (.Call _ [_, .Tuple [.Name (Str.ofString "tuple") _, .Name (Str.ofString "list") _] _ _] _ _) _ _); refine je_isiP b.isinstance b.tuple boot_tuple b.list boot_list (by decide) (by decide) ?_)) | ((with_reducible show JE _ _ _ (.Call (.Name (Str.ofString "len") _) _ _ _) _ _); refine je_len b.len ?_) | ((with_reducible show JE _ _ _ (.Call (.Name (Str.ofString "all") _) _ _ _) _ _); refine je_callB b.all boot_all ?_) | ((with_reducible show JE _ _ _ (.Call (.Name (Str.ofString "any") _) _ _ _) _ _); refine je_callB b.any boot_any ?_) | ((with_reducible show JE _ _ _ (.Call (.Name (Str.ofString "sorted") _) _ _ _) _ _); refine je_callB b.sorted boot_sorted ?_) | ((with_reducible show JE _ _ _ (.Call (.Name (Str.ofString "min") _) _ _ _) _ _); refine je_callB b.min boot_min ?_) | ((with_reducible show JE _ _ _ (.Call (.Name (Str.ofString "list") _) _ _ _) _ _); refine je_callT b.list boot_list ?_) | ((with_reducible show JE _ _ _ (.Call (.Name (Str.ofString "tuple") _) _ _ _) _ _); refine je_callT b.tuple boot_tuple ?_) | ((with_reducible show JE _ _ _ (.Call (.Name (Str.ofString "str") _) _ _ _) _ _); refine je_callT b.str boot_str ?_) | ((with_reducible show JE _ _ _ (.Call (.Name (Str.ofString "int") _) _ _ _) _ _); refine je_callT b.int boot_int ?_) | ((with_reducible show JE _ _ _ (.Call (.Name (Str.ofString "is_name") _) _ _ _) _ _); refine je_call gN (hr.mono (by decide)) ?_) | ((with_reducible show JE _ _ _ (.Call (.Name (Str.ofString "is_whole") _) _ _ _) _ _); refine je_call gW (hr.mono (by decide)) ?_)) | with_reducible refine je_not ?_ | with_reducible refine je_one ?_ | with_reducible refine je_and ?_ | with_reducible refine je_or ?_ | ((with_reducible show JE _ _ _ (.Compare _ [_, _] _ _) _ _); refine je_chain ?_) | ((with_reducible show JE _ _ _ (.Compare _ [_] _ _) _ _); refine je_cmp ?_) | with_reducible refine je_op ?_ | with_reducible refine je_tup ?_ | with_reducible refine je_ifExp ?_) | ((with_reducible show Exists _); refine ⟨_, rfl, ?_⟩) | ((with_reducible show ite _ _ _); first | refine ite_t rfl ?_ | refine ite_f rfl ?_) | ((with_reducible show OpD _ _ _ _ _ _); first | with_reducible refine opd_addI ?_ | with_reducible refine opd_subI ?_ | with_reducible refine opd_ltI ?_ | with_reducible refine opd_leI ?_ | with_reducible refine opd_gtI ?_ | with_reducible refine opd_geI ?_ | with_reducible refine opd_eqI ?_ | with_reducible refine opd_neI ?_ | with_reducible refine opd_eqS ?_ | with_reducible refine opd_neS ?_ | with_reducible refine opd_eqB ?_ | with_reducible refine opd_neB ?_) | ((with_reducible show JA _ _ _ _ _ _); first | with_reducible refine ja_nil ?_ | refine ja_cons ?_) | ((with_reducible show JT _ _ _ _ _ _); first | with_reducible refine jt_not ?_ | ((with_reducible show JT _ _ _ (.BoolOp .Or _ _) _ _); with_reducible refine jt_w (jw_or ?_)) | ((with_reducible show JT _ _ _ (.BoolOp .And _ _) _ _); with_reducible refine jt_w (jw_and ?_)) | ((with_reducible show JT _ _ _ (.Compare _ [_, _] _ _) _ _); refine jt_chain ?_) | ((with_reducible show JT _ _ _ (.Compare _ [_] _ _) _ _); refine jt_cmp ?_) | ((with_reducible show JT _ _ _ (.Call _ _ _ _) _ _); refine jt_val ?_)) | ((with_reducible show JW _ _ _ _ _ _); first | with_reducible refine jw_or1 ?_ | with_reducible refine jw_and1 ?_ | with_reducible refine jw_or ?_ | with_reducible refine jw_and ?_) | ((with_reducible show JSs _ _ _ _ _); first | with_reducible refine jss_one ?_ | with_reducible refine jss_cons ?_ | with_reducible refine jss_nil ?_) | ((with_reducible show JS _ _ _ _ _); first | with_reducible refine js_if ?_ | with_reducible refine js_ret ?_ | with_reducible refine js_retN ?_ | ((with_reducible show JS _ _ _ (.Expr _ _) _); refine js_expr ?_) | ((with_reducible show JS _ _ _ (.Assign [.Name _ _] _ _) _); first | ((with_reducible show JS _ _ _ (.Assign [.Name (Str.ofString "self") _] _ _) _); refine js_set 0 ?_ nd) | ((with_reducible show JS _ _ _ (.Assign [.Name (Str.ofString "place") _] _ _) _); refine js_set 1 ?_ nd) | ((with_reducible show JS _ _ _ (.Assign [.Name (Str.ofString "memory") _] _ _) _); refine js_set 2 ?_ nd))) | ((with_reducible show JG _ _ _ (.Name _ _) _ _); first | ((with_reducible show JG _ _ _ (.Name (Str.ofString "self") _) _ _); refine jg_name 0 ?_ nd) | ((with_reducible show JG _ _ _ (.Name (Str.ofString "place") _) _ _); refine jg_name 1 ?_ nd) | ((with_reducible show JG _ _ _ (.Name (Str.ofString "memory") _) _ _); refine jg_name 2 ?_ nd))))
theorem scRowAt : FnScope ["self", "place", "memory"] ["self", "place", "memory"] (defScope sRowAt) := ⟨rfl, rfl, rfl, by decide +kernel, rfl, by decide +kernel, by decide +kernel⟩
theorem ok_rowAt (F : Fun K "row_at" "Plan.row_at" sRowAt f fd) (b : Bn mg) (gN : GFn P w K mg base 1 "is_name" [] spName) (gW : GFn P w K mg base 1 "is_whole" [.non] spWhole) (cl : Cls K C) (n2 : NoAttr K C "_told") : FnOk P w K mg base (L2.CX P w) 3 f fd ["self", "place", "memory"] (spD K (spRowAt C)) := by
  refine fn_d F scRowAt (fun ds M Φ Ψ h => ?_) (fun cdv A outer s H E hr ds M Φ Ψ h => ?_)
  · obtain ⟨xs, p, m, rfl, _⟩ := h
    rfl
  · obtain ⟨xs, p, m, rfl, rfl, hx, hp, hm, h⟩ := h
    have hu := hr.units
    show JSs _ [some (.ins C (planIns C xs)), some p, some m] [] _ _
    refine jss_cons ?_
    walk_at "jgo"
    refine use_name hp ?_
    walk_at "jgo"
    refine ite_2 (fun c1 => ?_) fun c1 => ?_
    · refine ite_t rfl ?_
      walk_at "jgo"
      rw [Bool.not_eq_true'] at c1
      unfold rowAt at h
      rw [c1] at h
      exact h
    · rw [Bool.not_eq_false'] at c1
      walk_at "jgo"
      refine use_whole hm (.inl rfl) ?_
      walk_at "jgo"
      refine ite_2 (fun c2 => ?_) fun c2 => ?_
      · walk_at "jgo"
        rw [Bool.not_eq_true'] at c2
        unfold rowAt at h
        rw [c1, c2] at h
        exact h
      · rw [Bool.not_eq_false'] at c2
        unfold rowAt at h
        rw [c1, c2, if_pos rfl, if_pos rfl] at h
        obtain ⟨a, rfl⟩ := isName_str c1
        obtain ⟨i, rfl⟩ : ∃ i, m = .int i := by
          cases m with
          | int i => exact ⟨i, rfl⟩
          | _ => simp [isWhole] at c2
        walk_at "jgo"
        refine je_get1 (u1 hr) (je_fld ?_)
        walk_at "jgo"
        refine ⟨C, _, _, rfl, cl, n2, planIns_told C xs, ⟨_, .inr (.inl rfl)⟩, ?_⟩
        walk_at "jgo"
        refine ⟨by show 2 ≤ 1000000; decide, _, .inr ⟨_, [.inr a, .inl i], .inl rfl, List.cons_ne_nil _ _, rfl, rfl⟩, h⟩
end
end
end K27
end

section
set_option Elab.async false
set_option linter.all false
set_option maxRecDepth 100000
set_option maxHeartbeats 4000000
set_option pp.maxSteps 700
set_option hygiene false
open PySem PyProof.Rows L2 DL
namespace K27
open PySem PySem.Spec PyProof.Rows L2 DL
abbrev sPen : Stmt := top 13
abbrev sDraw : Stmt := top 14
/-- the pen's dict -/
def penD (ns : List Int) (at' dg ct fo : Int) : List (D × D) := [(.str "cells", .lst (ns.map .int)), (.str "at", .int at'), (.str "digits", .int dg), (.str "count", .int ct), (.str "fold", .int fo)]
def PenIs (n : Nat) (c : Cell) : Prop := ∃ (ns : List Int) (at' dg ct fo : Int), c = .dK (penD ns at' dg ct fo) ∧ 0 ≤ at' ∧ 0 ≤ dg ∧ 0 ≤ ct ∧ 0 ≤ fo ∧ fo < 3000000000 ∧ ct + n ≤ 1000000000000
def penK (c : Addr) (fo : Int) : List (Key × V) := [(.inr "cells", .ref c), (.inr "at", .int 0), (.inr "digits", .int 0), (.inr "count", .int 0), (.inr "fold", .int fo)]
def spPen (K : PySem.W.Frag) : Sp := fun vs H Q _ => ∃ (a : Addr) (ns : List Int), vs = [.ref a] ∧ SqL K H a (ns.map V.int) ∧ ∀ (H' : Hp) (p c : Addr) (fo : Int), 0 ≤ fo → fo < 3000000000 → H p = none → H c = none → Same H H' → H' p = some (.dK (penK c fo)) → H' c = some (.lst (ns.map V.int)) → Q (.ref p) H'
theorem strNe {a b : Str} (h : a ≠ b) : ¬ (D.str a = D.str b) := fun e => h (by cases e; rfl)
section
variable (ns : List Int) (at' dg ct fo : Int) (d : D)
theorem lk_cells : lkD (penD ns at' dg ct fo) (.str "cells") = some (.lst (ns.map .int)) := by
  unfold lkD penD
  rw [List.find?_cons_of_pos (by simp)]
  rfl
theorem lk_at : lkD (penD ns at' dg ct fo) (.str "at") = some (.int at') := by
  unfold lkD penD
  rw [List.find?_cons_of_neg (by simpa using by decide), List.find?_cons_of_pos (by simp)]
  rfl
theorem lk_digits : lkD (penD ns at' dg ct fo) (.str "digits") = some (.int dg) := by
  unfold lkD penD
  rw [List.find?_cons_of_neg (by simpa using by decide), List.find?_cons_of_neg (by simpa using by decide), List.find?_cons_of_pos (by simp)]
  rfl
theorem lk_count : lkD (penD ns at' dg ct fo) (.str "count") = some (.int ct) := by
  unfold lkD penD
  rw [List.find?_cons_of_neg (by simpa using by decide), List.find?_cons_of_neg (by simpa using by decide), List.find?_cons_of_neg (by simpa using by decide), List.find?_cons_of_pos (by simp)]
  rfl
theorem lk_fold : lkD (penD ns at' dg ct fo) (.str "fold") = some (.int fo) := by
  unfold lkD penD
  rw [List.find?_cons_of_neg (by simpa using by decide), List.find?_cons_of_neg (by simpa using by decide), List.find?_cons_of_neg (by simpa using by decide), List.find?_cons_of_neg (by simpa using by decide), List.find?_cons_of_pos (by simp)]
  rfl
theorem pt_at : ptD (penD ns at' dg ct fo) (.str "at") (.int x) = penD ns x dg ct fo := by
  unfold ptD
  rw [if_pos (by simp [penD])]
  simp only [penD, List.map_cons, List.map_nil]
  rw [if_neg (strNe (by decide)), if_pos True.intro, if_neg (strNe (by decide)), if_neg (strNe (by decide)), if_neg (strNe (by decide))]
theorem pt_digits : ptD (penD ns at' dg ct fo) (.str "digits") (.int x) = penD ns at' x ct fo := by
  unfold ptD
  rw [if_pos (by simp [penD])]
  simp only [penD, List.map_cons, List.map_nil]
  rw [if_neg (strNe (by decide)), if_neg (strNe (by decide)), if_pos True.intro, if_neg (strNe (by decide)), if_neg (strNe (by decide))]
theorem pt_count : ptD (penD ns at' dg ct fo) (.str "count") (.int x) = penD ns at' dg x fo := by
  unfold ptD
  rw [if_pos (by simp [penD])]
  simp only [penD, List.map_cons, List.map_nil]
  rw [if_neg (strNe (by decide)), if_neg (strNe (by decide)), if_neg (strNe (by decide)), if_pos True.intro, if_neg (strNe (by decide))]
theorem pt_fold : ptD (penD ns at' dg ct fo) (.str "fold") (.int x) = penD ns at' dg ct x := by
  unfold ptD
  rw [if_pos (by simp [penD])]
  simp only [penD, List.map_cons, List.map_nil]
  rw [if_neg (strNe (by decide)), if_neg (strNe (by decide)), if_neg (strNe (by decide)), if_neg (strNe (by decide)), if_pos True.intro]
end
section
variable {P : Program} {w : World} {K : PySem.W.Frag} {mg : Str → Option Value} {base : Heap} {f : Addr} {fd : FuncData}
theorem scPen : FnScope ["script", "fold", "cell"] ["script"] (defScope sPen) := ⟨rfl, rfl, rfl, by decide +kernel, rfl, by decide +kernel, by decide +kernel⟩
theorem ok_pen (F : Fun K "_law_pen" "_law_pen" sPen f fd) (b : Bn mg) : FnOk P w K mg base (L2.CX P w) 1 f fd ["script"] (spPen K) := by
  refine F.okX scPen (fun vs H Q E h => ?_) (fun cdv A outer s H vs Q E hr h => ?_)
  · obtain ⟨a, ns, rfl, _⟩ := h
    rfl
  · obtain ⟨a, ns, rfl, hS, q⟩ := h
    have pv : ∀ {X : Cx} (i : Nat) {x : Str} {p : Pos} (hN : X.N[i]? = some x) (hv : Vis X.env.scope x) (hd : (x == ("__debug__" : Str)) = false) (hcd : (x == ("__classdict__" : Str)) = false), PE X (.Name x p) (tVar i) := fun i _ _ hN hv hd hcd => pe_var hN hv hd hcd
    refine ⟨_, pss_cons (ps_set (i := 1) scPen.nd rfl (Or.inl rfl) pe_int) (pss_cons (ps_for (passes_of rfl) rfl (pi_list (pe_var (i := 0) rfl (Or.inl rfl) (by decide) (by decide))) (pg_name (i := 2) scPen.nd rfl (Or.inl rfl))
      (pss_one (ps_set (i := 1) scPen.nd rfl (Or.inl rfl) (pe_op op_mod (pe_callTy call_int1 rfl b.int boot_int (pa_cons (pe_op op_add (pe_op op_mul (pe_var (i := 1) rfl (Or.inl rfl) (by decide) (by decide)) pe_int) (pe_var (i := 2) rfl (Or.inl rfl) (by decide) (by decide))) pa_nil)) pe_int))))
      (pss_one (ps_ret (pe_disp (pps_cons pe_str (pe_callTy call_list_of rfl b.list boot_list (pa_cons (pe_var (i := 0) rfl (Or.inl rfl) (by decide) (by decide)) pa_nil)) (pps_cons pe_str pe_int (pps_cons pe_str pe_int (pps_cons pe_str pe_int (pps_cons pe_str (pe_var (i := 1) rfl (Or.inl rfl) (by decide) (by decide)) pps_nil))))) rfl rfl (by simp) (by show 5 ≤ 15; decide))))), ?_⟩
    refine ⟨_, rfl, a, rfl, ⟨_, hS⟩, for_list (K := K) (a := a) (xs := ns.map V.int) (fun i σ H' => ∃ (fo : Int) (v : Option V), σ = [some (.ref a), some (.int fo), v] ∧ 0 ≤ fo ∧ fo < 3000000000 ∧ H' = H) ⟨13, none, rfl, by decide, by decide, rfl⟩ (fun i σ H' _ ⟨_, _, _, _, _, e⟩ => by rw [e]; exact hS) ?_ ?_⟩
    · rintro i y σ H' hi ⟨fo, v, rfl, f0, f1, rfl⟩
      obtain ⟨z, rfl⟩ : ∃ z, y = V.int z := by
        rw [List.getElem?_map] at hi
        cases e : ns[i]? with
        | none => rw [e] at hi; cases hi
        | some z => rw [e] at hi; exact ⟨z, (Option.some.inj hi).symm⟩
      refine ⟨_, rfl, _, _, rfl, rfl, .inl ⟨by omega, by omega⟩, _, rfl, _, _, rfl, rfl, .inl ⟨_, rfl, _, _, rfl, rfl, by show (0 : Int) < 1000000271; decide, ?_⟩⟩
      exact ⟨_, _, rfl, Int.emod_nonneg _ (by decide), by have := Int.emod_lt_of_pos (fo * 103 + z) (by decide : (0 : Int) < 1000000271); omega, rfl⟩
    · rintro σ H' ⟨fo, v, rfl, f0, f1, rfl⟩
      intro p hp
      refine ⟨_, rfl, a, _, rfl, .inl ((same_upd hp).seq hS), fun c hc => ?_⟩
      have npc : p ≠ c := fun e => by rw [e, upd_same] at hc; cases hc
      have hc0 : H' c = none := by rw [upd_ne (Ne.symm npc)] at hc; exact hc
      refine ⟨_, rfl, by rw [upd_ne npc, upd_same], penK c fo, rfl, by show 5 ≤ 15; decide, ?_⟩
      refine q _ p c fo f0 f1 hp hc0 (fun b o e => ?_) upd_same ?_
      · have n1 := ne_of_none e hp
        have n2 := ne_of_none e hc0
        rw [upd_ne n1, upd_ne n2, upd_ne n1]
        exact e
      · rw [upd_ne (Ne.symm npc), upd_same]
end
end K27
end

section
set_option Elab.async false
set_option linter.all false
set_option maxRecDepth 100000
set_option maxHeartbeats 4000000
set_option pp.maxSteps 700
set_option hygiene false
open PySem PyProof.Rows L2 DL
namespace K27
open PySem PySem.Spec PyProof.Rows L2 DL
section
variable {X : Cx} {Γ : Sl} {M : Mem} {Φ : D → Mem → Prop} {Ψ : XP} {p : Addr} {ns : List Int} {at' dg ct fo : Int}
theorem je_pen {k : Str} {d : D} {p1 p2 pos : Pos} {j} (hl : lkD (penD ns at' dg ct fo) (.str k) = some d) (h : Φ d M) (hu : X.A.units + 1 < cLine) (hΓ : Γ[0]? = some (some (.raw (.ref p)))) (hM : M[0]? = some (p, .dK (penD ns at' dg ct fo))) (hN : X.N[0]? = some ("pen" : Str) := by rfl) (hv : Vis X.env.scope "pen" := by first | exact Or.inl rfl | exact Or.inr (Or.inl rfl) | exact Or.inr (Or.inr rfl)) :
    JE X Γ M (.Subscript (.Name "pen" p1) (.Constant (.str k) j p2) pos) Φ Ψ := je_dget hu (je_var 0 hΓ (je_str ⟨d, .inl ⟨_, .inr k, .inr ⟨0, p, rfl, hM⟩, rfl, hl⟩, h⟩) hN hv)
theorem js_pen {k : Str} {e : Expr} {P : Post} {p1 p2 p3 pos : Pos} {j} (hu : X.A.units + 1 < cLine) (hΓ : Γ[0]? = some (some (.raw (.ref p)))) (h : JE X Γ M e (fun d M1 => M1[0]? = some (p, .dK (penD ns at' dg ct fo)) ∧ P.nx Γ (M1.set 0 (p, .dK (ptD (penD ns at' dg ct fo) (.str k) d)))) (fun x M1 => P.ex x Γ M1)) (hN : X.N[0]? = some ("pen" : Str) := by rfl) (hv : Vis X.env.scope "pen" := by first | exact Or.inl rfl | exact Or.inr (Or.inl rfl) | exact Or.inr (Or.inr rfl))
    (hs : swapsWith e (some (.Subscript (.Name "pen" p1) (.Constant (.str k) j p2) p3)) pos.line X.env = pure false := by rfl) : JS X Γ M (.Assign [.Subscript (.Name "pen" p1) (.Constant (.str k) j p2) p3] e pos) P :=
  js_dputK 0 hu (h.imp fun d M1 ⟨h1, h2⟩ => je_var 0 hΓ (je_str ⟨p, _, .inr k, rfl, h1, rfl, by show 5 < 1000000; decide, h2⟩) hN hv) hs
end
def spDraw : DL.Spec := fun ds M Φ _ => ∃ p m n c, ds = [.raw (.ref p), .int m] ∧ 0 < m ∧ m < 1073741824 ∧ M = [(p, c)] ∧ PenIs (n + 1) c ∧ ∀ d c', 0 ≤ d → d < m → PenIs n c' → Φ (.int d) [(p, c')]
section
variable {P : Program} {w : World} {K : PySem.W.Frag} {mg : Str → Option Value} {base : Heap} {f : Addr} {fd : FuncData}
local macro_rules | `(tactic| walk_at "jgo") => `(tactic| repeat' (first | ((with_reducible show JE _ _ _ _ _ _); first | ((with_reducible show JE _ _ _ (.Constant _ _ _) _ _); first | with_reducible refine je_int ?_ | with_reducible refine je_str ?_ | with_reducible refine je_bl ?_ | with_reducible refine je_non ?_) | ((with_reducible show JE _ _ _ (.Name _ _) _ _); first | ((with_reducible show JE _ _ _ (.Name (Str.ofString "pen") _) _ _); refine je_var 0 rfl ?_) | ((with_reducible show JE _ _ _ (.Name (Str.ofString "many") _) _ _); refine je_var 1 rfl ?_) | ((with_reducible show JE _ _ _ (.Name (Str.ofString "cell") _) _ _); refine je_var 2 rfl ?_) | ((with_reducible show JE _ _ _ (.Name (Str.ofString "digit") _) _ _); refine je_var 3 rfl ?_) | ((with_reducible show JE _ _ _ (.Name (Str.ofString "blend") _) _ _); refine je_var 4 rfl ?_)) | ((with_reducible show JE _ _ _ (.Call (.Name _ _) _ _ _) _ _); first | ((with_reducible show JE _ _ _ (.Call (.Name (Str.ofString "isinstance") _) _ _ _) _ _); first | ((with_reducible show JE _ _ _ (.Call _ [_, .Name (Str.ofString "str") _] _ _) _ _); refine je_isi b.isinstance b.str boot_str (by decide) ?_) | ((with_reducible show JE _ _ _ (.Call _ [_, .Name (Str.ofString "int") _] _ _) _ _); refine je_isi b.isinstance b.int boot_int (by decide) ?_) | ((with_reducible show JE _ _ _ (.Call _ [_, .Name (Str.ofString "bool") _] _ _) _ _); refine je_isi b.isinstance b.bool boot_bool (by decide) ?_) | ((with_reducible show JE _ _ _ (.Call _ [_, .Name (Str.ofString "tuple") _] _ _) _ _); refine je_isi b.isinstance b.tuple boot_tuple (by decide) ?_) | ((with_reducible show JE _ _ _ (.Call _ [_, .Name (Str.ofString "list") _] _ _) _ _); refine je_isi b.isinstance b.list boot_list (by decide) ?_) | ((with_reducible show JE _ _ _ (.Call _ [_, .Name (Str.ofString "dict") _] _ _) _ _); refine je_isi b.isinstance b.dict boot_dict (by decide) ?_) | ((with_reducible show JE _ _ _ (.Call _ [_, .Tuple [.Name (Str.ofString "tuple") _, .Name (Str.ofString "list") _] _ _] _ _) _ _); refine je_isiP b.isinstance b.tuple boot_tuple b.list boot_list (by decide) (by decide) ?_)) | ((with_reducible show JE _ _ _ (.Call (.Name (Str.ofString "len") _) _ _ _) _ _); refine je_len b.len ?_) | ((with_reducible show JE _ _ _ (.Call (.Name (Str.ofString "all") _) _ _ _) _ _); refine je_callB b.all boot_all ?_) | ((with_reducible show JE _ _ _ (.Call (.Name (Str.ofString "any") _) _ _ _) _ _); refine je_callB b.any boot_any ?_) | ((with_reducible show JE _ _ _ (.Call (.Name (Str.ofString "sorted") _) _ _ _) _ _); refine je_callB b.sorted boot_sorted ?_) | ((with_reducible show JE _ _ _ (.Call (.Name (Str.ofString "min") _) _ _ _) _ _); refine je_callB b.min boot_min ?_) | ((with_reducible show JE _ _ _ (.Call (.Name (Str.ofString "list") _) _ _ _) _ _); refine je_callT b.list boot_list ?_) | ((with_reducible show JE _ _ _ (.Call (.Name (Str.ofString "tuple") _) _ _ _) _ _); refine je_callT b.tuple boot_tuple ?_) | ((with_reducible show JE _ _ _ (.Call (.Name (Str.ofString "str") _) _ _ _) _ _); refine je_callT b.str boot_str ?_) | ((with_reducible show JE _ _ _ (.Call (.Name (Str.ofString "int") _) _ _ _) _ _); refine je_callT b.int boot_int ?_)) | with_reducible refine je_not ?_ | with_reducible refine je_one ?_ | with_reducible refine je_and ?_ | with_reducible refine je_or ?_ | ((with_reducible show JE _ _ _ (.Compare _ [_, _] _ _) _ _); refine je_chain ?_) | ((with_reducible show JE _ _ _ (.Compare _ [_] _ _) _ _); refine je_cmp ?_) | with_reducible refine je_op ?_ | with_reducible refine je_tup ?_ | with_reducible refine je_ifExp ?_) | ((with_reducible show Exists _); refine ⟨_, rfl, ?_⟩) | ((with_reducible show ite _ _ _); first | refine ite_t rfl ?_ | refine ite_f rfl ?_) | ((with_reducible show OpD _ _ _ _ _ _); first | with_reducible refine opd_addI ?_ | with_reducible refine opd_subI ?_ | with_reducible refine opd_ltI ?_ | with_reducible refine opd_leI ?_ | with_reducible refine opd_gtI ?_ | with_reducible refine opd_geI ?_ | with_reducible refine opd_eqI ?_ | with_reducible refine opd_neI ?_ | with_reducible refine opd_eqS ?_ | with_reducible refine opd_neS ?_ | with_reducible refine opd_eqB ?_ | with_reducible refine opd_neB ?_) | ((with_reducible show JA _ _ _ _ _ _); first | with_reducible refine ja_nil ?_ | refine ja_cons ?_) | ((with_reducible show JT _ _ _ _ _ _); first | with_reducible refine jt_not ?_ | ((with_reducible show JT _ _ _ (.BoolOp .Or _ _) _ _); with_reducible refine jt_w (jw_or ?_)) | ((with_reducible show JT _ _ _ (.BoolOp .And _ _) _ _); with_reducible refine jt_w (jw_and ?_)) | ((with_reducible show JT _ _ _ (.Compare _ [_, _] _ _) _ _); refine jt_chain ?_) | ((with_reducible show JT _ _ _ (.Compare _ [_] _ _) _ _); refine jt_cmp ?_) | ((with_reducible show JT _ _ _ (.Call _ _ _ _) _ _); refine jt_val ?_)) | ((with_reducible show JW _ _ _ _ _ _); first | with_reducible refine jw_or1 ?_ | with_reducible refine jw_and1 ?_ | with_reducible refine jw_or ?_ | with_reducible refine jw_and ?_) | ((with_reducible show JSs _ _ _ _ _); first | with_reducible refine jss_one ?_ | with_reducible refine jss_cons ?_ | with_reducible refine jss_nil ?_) | ((with_reducible show JS _ _ _ _ _); first | with_reducible refine js_if ?_ | with_reducible refine js_ret ?_ | with_reducible refine js_retN ?_ | ((with_reducible show JS _ _ _ (.Expr _ _) _); refine js_expr ?_) | ((with_reducible show JS _ _ _ (.Assign [.Name _ _] _ _) _); first | ((with_reducible show JS _ _ _ (.Assign [.Name (Str.ofString "pen") _] _ _) _); refine js_set 0 ?_ nd) | ((with_reducible show JS _ _ _ (.Assign [.Name (Str.ofString "many") _] _ _) _); refine js_set 1 ?_ nd) | ((with_reducible show JS _ _ _ (.Assign [.Name (Str.ofString "cell") _] _ _) _); refine js_set 2 ?_ nd) | ((with_reducible show JS _ _ _ (.Assign [.Name (Str.ofString "digit") _] _ _) _); refine js_set 3 ?_ nd) | ((with_reducible show JS _ _ _ (.Assign [.Name (Str.ofString "blend") _] _ _) _); refine js_set 4 ?_ nd))) | ((with_reducible show JG _ _ _ (.Name _ _) _ _); first | ((with_reducible show JG _ _ _ (.Name (Str.ofString "pen") _) _ _); refine jg_name 0 ?_ nd) | ((with_reducible show JG _ _ _ (.Name (Str.ofString "many") _) _ _); refine jg_name 1 ?_ nd) | ((with_reducible show JG _ _ _ (.Name (Str.ofString "cell") _) _ _); refine jg_name 2 ?_ nd) | ((with_reducible show JG _ _ _ (.Name (Str.ofString "digit") _) _ _); refine jg_name 3 ?_ nd) | ((with_reducible show JG _ _ _ (.Name (Str.ofString "blend") _) _ _); refine jg_name 4 ?_ nd))))
theorem scDraw : FnScope ["pen", "many", "cell", "digit", "blend"] ["pen", "many"] (defScope sDraw) := ⟨rfl, rfl, rfl, by decide +kernel, rfl, by decide +kernel, by decide +kernel⟩
theorem ok_draw (F : Fun K "_law_draw" "_law_draw" sDraw f fd) (b : Bn mg) : FnOk P w K mg base (L2.CX P w) 1 f fd ["pen", "many"] (spD K spDraw) := by
  refine fn_d F scDraw (fun ds M Φ Ψ h => ?_) (fun cdv A outer s H E hr ds M Φ Ψ h => ?_)
  · obtain ⟨p, m, n, c, rfl, _⟩ := h
    rfl
  · obtain ⟨p, m, n, c, rfl, m0, m1, rfl, ⟨ns, at', dg, ct, fo, rfl, a0, d0, c0, f0, f1, hn⟩, h⟩ := h
    have hu := hr.units
    have hu1 := u1 hr
    have nd := scDraw.nd
    show JSs _ [some (.raw (.ref p)), some (.int m), none, none, none] [(p, .dK (penD ns at' dg ct fo))] _ _
    -- pen['count'] = pen['count'] + 1
    refine jss_cons (js_pen hu1 rfl (je_op (je_pen (lk_count ..) (je_int (opd_addI ⟨rfl, ?_⟩)) hu1 rfl rfl)))
    rw [pt_count]
    show JSs _ _ [(p, .dK (penD ns at' dg (ct + 1) fo))] _ _
    -- a cell is read
    refine jss_cut (fun Γ1 M1 => ∃ (x : Option D) (at' dg fo : Int), Γ1 = [some (.raw (.ref p)), some (.int m), x, none, none] ∧ M1 = [(p, .dK (penD ns at' dg (ct + 1) fo))] ∧ 0 ≤ at' ∧ 0 ≤ dg ∧ 0 ≤ fo ∧ fo < 3000000000) (js_if ?_) ?_
    · have skip : ∃ (x : Option D) (at2 dg2 fo2 : Int), [some (D.raw (.ref p)), some (.int m), none, none, none] = [some (.raw (.ref p)), some (.int m), x, none, none] ∧ [(p, Cell.dK (penD ns at' dg (ct + 1) fo))] = [(p, .dK (penD ns at2 dg2 (ct + 1) fo2))] ∧ 0 ≤ at2 ∧ 0 ≤ dg2 ∧ 0 ≤ fo2 ∧ fo2 < 3000000000 := ⟨none, at', dg, fo, rfl, rfl, a0, d0, f0, f1⟩
      refine jt_w (jw_and (jt_cmp (je_pen (lk_digits ..) (je_int (opd_eqI ⟨_, rfl, ?_⟩)) hu1 rfl rfl)))
      refine ite_2 (fun e1 => ?_) fun e1 => ite_f rfl (jss_nil skip)
      refine jw_and1 (jt_cmp (je_pen (lk_at ..) (je_len b.len (je_pen (lk_cells ..) ⟨_, .inl ⟨_, rfl, rfl⟩, opd_ltI ⟨_, rfl, ?_⟩⟩ hu1 rfl rfl)) hu1 rfl rfl))
      refine ite_2 (fun e2 => ?_) fun e2 => jss_nil skip
      have hlt : at' < (ns.length : Int) := by
        have := of_decide_eq_true e2
        rwa [List.length_map] at this
      obtain ⟨z, hz⟩ : ∃ z, ns[at'.toNat]? = some z := ⟨_, List.getElem?_eq_getElem (by omega)⟩
      have hat : atI (ns.map D.int) at' = some (.int z) := by
        have e : at' = ((at'.toNat : Nat) : Int) := by omega
        rw [e]
        refine atI_nat ?_
        rw [List.getElem?_map, hz]
        rfl
      refine jss_cons (js_set 2 (je_ixL (je_pen (lk_cells ..) (je_pen (lk_at ..) ⟨_, _, _, rfl, rfl, hat, ?_⟩ hu1 rfl rfl) hu1 rfl rfl)) nd)
      refine jss_cons (js_pen hu1 rfl (je_op (je_pen (lk_at ..) (je_int (opd_addI ⟨rfl, ?_⟩)) hu1 rfl rfl)))
      rw [pt_at]
      refine jss_one (js_if (jt_cmp (je_var 2 rfl (je_op (je_int (je_int (opd_powI ?_ (opd_geI ⟨_, rfl, ?_⟩))))))))
      · exact ⟨by decide, by decide, by decide⟩
      refine ite_2 (fun e3 => ?_) fun e3 => ?_
      · have ge := of_decide_eq_true e3
        refine jss_one (js_pen hu1 rfl (je_op (je_var 2 rfl (je_op (je_int (je_int (opd_powI ⟨by decide, by decide, by decide⟩ (opd_subI ⟨rfl, ?_⟩))))))))
        rw [pt_digits]
        exact ⟨_, _, _, _, rfl, rfl, by omega, by omega, f0, f1⟩
      · refine jss_one (js_pen hu1 rfl (je_op (je_callT b.int boot_int (ja_cons (je_op (je_op (je_pen (lk_fold ..) (je_int (opd_mulI (.inl ⟨by omega, by omega⟩) (je_var 2 rfl (opd_addI (ja_nil (cd_intI (je_int (opd_modI (by decide) ⟨rfl, ?_⟩)))))))) hu1 rfl rfl)))))))
        rw [pt_fold]
        have := Int.emod_lt_of_pos (fo * 70019 + z) (by decide : (0 : Int) < 2147483423)
        exact ⟨_, _, _, _, rfl, rfl, by omega, d0, Int.emod_nonneg _ (by decide), by omega⟩
    · rintro Γ1 M1 ⟨x, at', dg, fo, rfl, rfl, a0, d0, f0, f1⟩
      -- digits are left
      refine jss_cons (js_if (jt_cmp (je_pen (lk_digits ..) (je_int (opd_gtI ⟨_, rfl, ?_⟩)) hu1 rfl rfl)))
      refine ite_2 (fun e1 => ?_) fun e1 => jss_nil ?_
      · refine jss_cons (js_set 3 (je_op (je_callT b.int boot_int (ja_cons (je_pen (lk_digits ..) (ja_nil (cd_intI (je_var 1 rfl (opd_modI m0 ?_)))) hu1 rfl rfl)))) nd)
        refine jss_cons (js_pen hu1 rfl (je_op (je_pen (lk_digits ..) (je_var 1 rfl (opd_divI ⟨m0, m1⟩ ⟨rfl, ?_⟩)) hu1 rfl rfl)))
        rw [pt_digits]
        refine jss_one (js_ret (je_var 3 rfl ?_))
        exact h _ _ (Int.emod_nonneg _ (by omega)) (Int.emod_lt_of_pos _ m0) ⟨ns, at', _, ct + 1, fo, rfl, a0, Int.ediv_nonneg d0 (by omega), by omega, f0, f1, by omega⟩
      · refine jss_cons (js_set 4 (je_op (je_op (je_pen (lk_fold ..) (je_op (je_pen (lk_count ..) (je_int (opd_mulI (.inl ⟨by omega, by omega⟩) (opd_addI (je_int (opd_addI ?_))))) hu1 rfl rfl)) hu1 rfl rfl))) nd)
        refine jss_one (js_ret (je_op (je_op (je_callT b.int boot_int (ja_cons (je_op (je_op (je_var 4 rfl (je_int (opd_powI ?_ (je_int (opd_modI (by decide) (ja_nil (cd_intI (je_int (opd_divI ⟨by decide, by decide⟩ (je_var 1 rfl (opd_modI m0 ?_))))))))))))))))))
        · exact ⟨by decide, by decide, by omega⟩
        · exact h _ _ (Int.emod_nonneg _ (by omega)) (Int.emod_lt_of_pos _ m0) ⟨ns, at', dg, ct + 1, fo, rfl, a0, d0, by omega, f0, f1, by omega⟩
end
end K27
end

section
set_option Elab.async false
set_option linter.all false
set_option maxRecDepth 100000
set_option maxHeartbeats 4000000
set_option pp.maxSteps 700
set_option hygiene false
open PySem PyProof.Rows L2 DL
namespace K27
open PySem PySem.Spec PyProof.Rows L2 DL
abbrev sPick : Stmt := top 15
abbrev sShuf : Stmt := top 16
abbrev sName : Stmt := top 17
abbrev sNames : Stmt := top 18
theorem PenIs.less {n m : Nat} {c : Cell} (h : PenIs n c) (hm : m ≤ n) : PenIs m c := by
  obtain ⟨ns, a, d, ct, fo, e, h1, h2, h3, h4, h5, h6⟩ := h
  exact ⟨ns, a, d, ct, fo, e, h1, h2, h3, h4, h5, by omega⟩
theorem use_draw {M : Mem} {Φ : D → Mem → Prop} {Ψ : XP} (k : Nat) {p : Addr} {c : Cell} {n : Nat} {m : Int} (hk : M[k]? = some (p, c)) (hc : PenIs (n + 1) c) (m0 : 0 < m) (m1 : m < 1073741824) (h : ∀ d c', 0 ≤ d → d < m → PenIs n c' → Φ (.int d) (M.set k (p, c'))) : Use spDraw [.raw (.ref p), .int m] M Φ Ψ :=
  .one k p c hk ⟨p, m, n, c, rfl, m0, m1, rfl, hc, fun d c' h0 h1 hc' c'' e => by cases e; exact h d c' h0 h1 hc'⟩
def spPick : DL.Spec := fun ds M Φ _ => ∃ p xs n c, ds = [.raw (.ref p), .lst xs] ∧ xs ≠ [] ∧ xs.length ≤ 1000000 ∧ M = [(p, c)] ∧ PenIs (n + 1) c ∧ ∀ x c', x ∈ xs → PenIs n c' → Φ x [(p, c')]
theorem use_pick {M : Mem} {Φ : D → Mem → Prop} {Ψ : XP} (k : Nat) {p : Addr} {c : Cell} {n : Nat} {xs : List D} (hk : M[k]? = some (p, c)) (hc : PenIs (n + 1) c) (h0 : xs ≠ []) (h1 : xs.length ≤ 1000000) (h : ∀ x c', x ∈ xs → PenIs n c' → Φ x (M.set k (p, c'))) : Use spPick [.raw (.ref p), .lst xs] M Φ Ψ :=
  .one k p c hk ⟨p, xs, n, c, rfl, h0, h1, rfl, hc, fun x c' hx hc' c'' e => by cases e; exact h x c' hx hc'⟩
def spShuf : DL.Spec := fun ds M Φ _ => ∃ p xs n c, ds = [.raw (.ref p), .lst xs] ∧ xs.length ≤ 100000 ∧ M = [(p, c)] ∧ PenIs (n + xs.length) c ∧ ∀ ys c', ys.Perm xs → PenIs n c' → Φ (.lst ys) [(p, c')]
theorem use_shuf {M : Mem} {Φ : D → Mem → Prop} {Ψ : XP} (k : Nat) {p : Addr} {c : Cell} {n : Nat} {xs : List D} (hk : M[k]? = some (p, c)) (hc : PenIs (n + xs.length) c) (h1 : xs.length ≤ 100000) (h : ∀ ys c', ys.Perm xs → PenIs n c' → Φ (.lst ys) (M.set k (p, c'))) : Use spShuf [.raw (.ref p), .lst xs] M Φ Ψ :=
  .one k p c hk ⟨p, xs, n, c, rfl, h1, rfl, hc, fun x c' hx hc' c'' e => by cases e; exact h x c' hx hc'⟩
section
variable {P : Program} {w : World} {K : PySem.W.Frag} {mg : Str → Option Value} {base : Heap} {f : Addr} {fd : FuncData}
theorem scPick : FnScope ["pen", "some"] ["pen", "some"] (defScope sPick) := ⟨rfl, rfl, rfl, by decide +kernel, rfl, by decide +kernel, by decide +kernel⟩
theorem at_of {xs : List D} {d : Int} (h0 : 0 ≤ d) (h1 : d < xs.length) : ∃ x, x ∈ xs ∧ atI xs d = some x ∧ xs[d.toNat]? = some x := by
  have hlt : d.toNat < xs.length := by omega
  obtain ⟨x, hx⟩ : ∃ x, xs[d.toNat]? = some x := ⟨_, List.getElem?_eq_getElem hlt⟩
  refine ⟨x, List.mem_of_getElem? hx, ?_, hx⟩
  have e : d = ((d.toNat : Nat) : Int) := by omega
  rw [e]
  exact atI_nat hx
theorem ok_pick (F : Fun K "_law_pick" "_law_pick" sPick f fd) (b : Bn mg) (gD : GFn P w K mg base 1 "_law_draw" [] spDraw) : FnOk P w K mg base (L2.CX P w) 2 f fd ["pen", "some"] (spD K spPick) := by
  refine fn_d F scPick (fun ds M Φ Ψ h => ?_) (fun cdv A outer s H E hr ds M Φ Ψ h => ?_)
  · obtain ⟨p, xs, n, c, rfl, _⟩ := h
    rfl
  · obtain ⟨p, xs, n, c, rfl, h0, h1, rfl, hc, h⟩ := h
    show JSs _ [some (.raw (.ref p)), some (.lst xs)] [(p, c)] _ _
    have hl : 0 < xs.length := List.length_pos_iff.mpr h0
    refine jss_one (js_ret (je_ixL (je_var 1 rfl (je_call gD (hr.mono (by decide)) (ja_cons (je_var 0 rfl (ja_cons (je_len b.len (je_var 1 rfl ⟨_, .inl ⟨xs, rfl, rfl⟩, ja_nil (use_draw 0 rfl hc (by omega) (by omega) fun d c' d0 d1 hc' => ?_)⟩)))))))))
    obtain ⟨x, hx, ha, _⟩ := at_of d0 d1
    exact ⟨xs, d, x, rfl, rfl, ha, h x c' hx hc'⟩
theorem scShuf : FnScope ["pen", "some", "left", "found", "lap"] ["pen", "some"] (defScope sShuf) := ⟨rfl, rfl, rfl, by decide +kernel, rfl, by decide +kernel, by decide +kernel⟩
theorem erase_perm {α : Type} {x : α} : ∀ {xs : List α} {j : Nat}, xs[j]? = some x → ([x] ++ xs.eraseIdx j).Perm xs
  | [], _, h => by simp at h
  | y :: xs, 0, h => by
    cases h
    exact List.Perm.refl _
  | y :: xs, j + 1, h => by
    have ih := erase_perm (xs := xs) (j := j) h
    exact (List.Perm.swap y x (xs.eraseIdx j)).trans (List.Perm.cons y ih)
theorem pop_perm {α : Type} {xs ys : List α} {j : Nat} {x : α} (h : xs[j]? = some x) : ((ys ++ [x]) ++ xs.eraseIdx j).Perm (ys ++ xs) := by
  rw [List.append_assoc]
  exact List.Perm.append_left ys (erase_perm h)
theorem ok_shuf (F : Fun K "_law_shuffled" "_law_shuffled" sShuf f fd) (b : Bn mg) (gD : GFn P w K mg base 1 "_law_draw" [] spDraw) : FnOk P w K mg base (L2.CX P w) 2 f fd ["pen", "some"] (spD K spShuf) := by
  refine fn_dc F scShuf (fun ds M Φ Ψ h => ?_) (fun cdv A outer s H E hr ds M Φ Ψ h => ?_)
  · obtain ⟨p, xs, n, c, rfl, _⟩ := h
    rfl
  · obtain ⟨p, xs, n, c, rfl, h1, rfl, hc, h⟩ := h
    have nd := scShuf.nd
    show JSs _ [some (.raw (.ref p)), some (.lst xs), none, none, none] [(p, c)] _ _
    refine jss_cons (js_par 2 3 (ja_cons (je_callT b.list boot_list (ja_cons (je_var 1 rfl (ja_nil (cd_listC fun l => ja_cons (je_lstC (ja_nil ⟨by decide, fun t => ja_nil ⟨_, _, rfl, ?_⟩⟩)))))))) nd)
    show JSs _ [some (.raw (.ref p)), some (.lst xs), some (.raw (.ref l)), some (.raw (.ref t)), none] [(p, c), (l, .lst xs), (t, .lst [])] _ _
    refine jss_cons (js_for (passes_of rfl) (ji_range1 b.range (je_len b.len (je_var 1 rfl ⟨_, .inl ⟨xs, rfl, rfl⟩, _, rfl, by omega, by omega, ?_⟩))))
    refine ⟨fun i Γ2 M2 => ∃ c left found lap, Γ2 = [some (.raw (.ref p)), some (.lst xs), some (.raw (.ref l)), some (.raw (.ref t)), lap] ∧ M2 = [(p, c), (l, .lst left), (t, .lst found)] ∧ (found ++ left).Perm xs ∧ found.length = i ∧ PenIs (n + left.length) c, ⟨c, xs, [], none, rfl, rfl, List.Perm.refl _, rfl, hc⟩, ?_, ?_⟩
    · rintro i x Γ2 M2 hi ⟨c, left, found, lap, rfl, rfl, hp, hf, hc⟩
      have hi' := (List.getElem?_eq_some_iff.mp hi).1
      rw [rngD_length] at hi'
      have hlen := hp.length_eq
      rw [List.length_append] at hlen
      have hl : 0 < left.length := by omega
      refine jg_name 4 ?_ nd
      refine jss_one (js_expr (je_m PySem.F.plainAttrs_list PySem.F.slot_list_append PySem.F.type_list_append (je_var 3 rfl ⟨.inr ⟨rfl, .inr ⟨2, t, found, rfl, rfl⟩⟩, ja_cons (je_m PySem.F.plainAttrs_list PySem.F.slot_list_pop PySem.F.type_list_pop (je_var 2 rfl ⟨.inr ⟨rfl, .inr ⟨1, l, left, rfl, rfl⟩⟩, ja_cons (je_call gD (hr.mono (by decide)) (ja_cons (je_var 0 rfl (ja_cons (je_len b.len (je_var 2 rfl ⟨left.length, .inr (.inr (.inr (.inr (.inr ⟨1, l, left, rfl, rfl, rfl⟩)))), ja_nil ?_⟩))))))⟩))⟩)))
      refine use_draw (n := n + left.length - 1) 0 rfl (hc.less (by omega)) (by omega) (by omega) fun d c' d0 d1 hc' => ?_
      obtain ⟨y, hy, ha, _⟩ := at_of d0 d1
      obtain ⟨j, hj, hg, hjl, _⟩ := atI_get ha
      refine ja_nil (md_popAt 1 rfl ⟨by omega, by omega⟩ hj hg (ja_nil (md_append 2 rfl (by omega) ?_)))
      refine ⟨c', left.eraseIdx j, found ++ [y], _, rfl, rfl, (pop_perm hg).trans hp, by rw [List.length_append, hf]; rfl, hc'.less ?_⟩
      rw [List.length_eraseIdx, if_pos (by omega)]
      omega
    · rintro Γ2 M2 ⟨c, left, found, lap, rfl, rfl, hp, hf, hc⟩
      rw [rngD_length] at hf
      have hlen := hp.length_eq
      rw [List.length_append] at hlen
      have hl : left = [] := List.eq_nil_of_length_eq_zero (by omega)
      subst hl
      rw [List.append_nil] at hp
      exact jss_one (js_ret (je_var 3 rfl (.inr ⟨2, t, found, by show 1 ≤ 2; decide, rfl, rfl, h found c hp hc⟩)))
end
end K27
end

section
set_option Elab.async false
set_option linter.all false
set_option maxRecDepth 100000
set_option maxHeartbeats 4000000
set_option pp.maxSteps 700
set_option hygiene false
open PySem PyProof.Rows L2 DL
namespace K27
open PySem PySem.Spec PyProof.Rows L2 DL
def low (w : List Nat) : Prop := ∀ c ∈ w, 97 ≤ c ∧ c ≤ 122
def NameOf (i : Nat) (z : Str) : Prop := ∃ (w : List Nat) (pl : Nat), 1 ≤ pl ∧ pl ≤ w.length ∧ w.length ≤ 8 ∧ low w ∧ z = ⟨(w.take pl ++ (48 + i) :: w.drop pl).toArray⟩
def alph : Str := "abcdefghijklmnopqrstuvwxyz"
theorem alph_list : alph.cps.toList = (List.range 26).map (97 + ·) := by decide +kernel
theorem alph_at {d : Int} (h0 : 0 ≤ d) (h1 : d < 26) : ∃ c, 97 ≤ c ∧ c ≤ 122 ∧ atI alph.cps.toList d = some c := by
  refine ⟨97 + d.toNat, by omega, by omega, ?_⟩
  have e : d = ((d.toNat : Nat) : Int) := by omega
  rw [e]
  refine atI_nat ?_
  rw [alph_list, List.getElem?_map, List.getElem?_range (by omega)]
  rfl
theorem digit_str {i : Int} (h0 : 0 ≤ i) (h1 : i < 10) : ((toString i : String) : Str) = ⟨#[48 + i.toNat]⟩ := by
  have h : i = 0 ∨ i = 1 ∨ i = 2 ∨ i = 3 ∨ i = 4 ∨ i = 5 ∨ i = 6 ∨ i = 7 ∨ i = 8 ∨ i = 9 := by omega
  rcases h with rfl | rfl | rfl | rfl | rfl | rfl | rfl | rfl | rfl | rfl <;> decide +kernel
theorem str_app (a b : List Nat) : (⟨a.toArray⟩ : Str) ++ ⟨b.toArray⟩ = ⟨(a ++ b).toArray⟩ := by
  show Str.mk (a.toArray ++ b.toArray) = _
  rw [List.append_toArray]
theorem str_len (a : List Nat) : (⟨a.toArray⟩ : Str).length = a.length := by simp [Str.length]
theorem cut_take (w : List Nat) (pl : Nat) (h : pl ≤ w.length) : cutS ⟨w.toArray⟩ none (some (pl : Int)) = ⟨(w.take pl).toArray⟩ := by
  unfold cutS
  rw [HT.sIx_none, HT.sIx_nat, str_len, Nat.min_eq_left h]
  simp
theorem cut_drop (w : List Nat) (pl : Nat) (h : pl ≤ w.length) : cutS ⟨w.toArray⟩ (some (pl : Int)) none = ⟨(w.drop pl).toArray⟩ := by
  unfold cutS
  rw [HT.sIx_none, HT.sIx_nat, str_len, Nat.min_eq_left h]
  congr 2
  exact List.take_of_length_le (by rw [List.length_drop]; exact Nat.le_refl _)
def spName' : DL.Spec := fun ds M Φ _ => ∃ p i n c, ds = [.raw (.ref p), .int (i : Nat)] ∧ i < 10 ∧ M = [(p, c)] ∧ PenIs (n + 10) c ∧ ∀ z c', NameOf i z → PenIs n c' → Φ (.str z) [(p, c')]
theorem use_name' {M : Mem} {Φ : D → Mem → Prop} {Ψ : XP} (k : Nat) {p : Addr} {c : Cell} {n i : Nat} (hk : M[k]? = some (p, c)) (hc : PenIs (n + 10) c) (hi : i < 10) (h : ∀ z c', NameOf i z → PenIs n c' → Φ (.str z) (M.set k (p, c'))) : Use spName' [.raw (.ref p), .int (i : Nat)] M Φ Ψ :=
  .one k p c hk ⟨p, i, n, c, rfl, hi, rfl, hc, fun x c' hx hc' c'' e => by cases e; exact h x c' hx hc'⟩
def spNames : DL.Spec := fun ds M Φ _ => ∃ p m n c, ds = [.raw (.ref p), .int (m : Nat)] ∧ m ≤ 10 ∧ M = [(p, c)] ∧ PenIs (n + 11 * m) c ∧ ∀ ys c' (zs : List Str), zs.length = m → (∀ j z, zs[j]? = some z → NameOf j z) → ys.Perm (zs.map D.str) → PenIs n c' → Φ (.lst ys) [(p, c')]
theorem use_names {M : Mem} {Φ : D → Mem → Prop} {Ψ : XP} (k : Nat) {p : Addr} {c : Cell} {n m : Nat} (hk : M[k]? = some (p, c)) (hc : PenIs (n + 11 * m) c) (hm : m ≤ 10) (h : ∀ ys c' (zs : List Str), zs.length = m → (∀ j z, zs[j]? = some z → NameOf j z) → ys.Perm (zs.map D.str) → PenIs n c' → Φ (.lst ys) (M.set k (p, c'))) : Use spNames [.raw (.ref p), .int (m : Nat)] M Φ Ψ :=
  .one k p c hk ⟨p, m, n, c, rfl, hm, rfl, hc, fun ys c' zs h1 h2 h3 hc' c'' e => by cases e; exact h ys c' zs h1 h2 h3 hc'⟩
section
variable {P : Program} {w : World} {K : PySem.W.Frag} {mg : Str → Option Value} {base : Heap} {f : Addr} {fd : FuncData}
theorem scName : FnScope ["pen", "index", "word", "spot", "place"] ["pen", "index"] (defScope sName) := ⟨rfl, rfl, rfl, by decide +kernel, rfl, by decide +kernel, by decide +kernel⟩
theorem ok_name (F : Fun K "_law_name" "_law_name" sName f fd) (b : Bn mg) (gD : GFn P w K mg base 1 "_law_draw" [] spDraw) : FnOk P w K mg base (L2.CX P w) 2 f fd ["pen", "index"] (spD K spName') := by
  refine fn_d F scName (fun ds M Φ Ψ h => ?_) (fun cdv A outer s H E hr ds M Φ Ψ h => ?_)
  · obtain ⟨p, i, n, c, rfl, _⟩ := h
    rfl
  · obtain ⟨p, i, n, c, rfl, hi, rfl, hc, h⟩ := h
    have nd := scName.nd
    show JSs _ [some (.raw (.ref p)), some (.int (i : Nat)), none, none, none] [(p, c)] _ _
    refine jss_cons (js_set 2 (je_str ?_) nd)
    show JSs _ [some (.raw (.ref p)), some (.int (i : Nat)), some (.str ⟨([] : List Nat).toArray⟩), none, none] [(p, c)] _ _
    refine jss_cons (js_for (passes_of rfl) (ji_range1 b.range ?_))
    refine je_op (je_int ?_)
    refine je_call gD (hr.mono (by decide)) (ja_cons (je_var 0 rfl (ja_cons (je_int (ja_nil ?_)))))
    refine use_draw (n := n + 9) 0 rfl hc (by decide) (by decide) fun d c' d0 d1 hc' => opd_addI ⟨_, rfl, by omega, by omega, ?_⟩
    refine ⟨fun i2 Γ2 M2 => ∃ c w spot, Γ2 = [some (.raw (.ref p)), some (.int (i : Nat)), some (.str ⟨w.toArray⟩), spot, none] ∧ M2 = [(p, c)] ∧ w.length = i2 ∧ low w ∧ PenIs (n + 9 - i2) c, ⟨c', [], none, rfl, rfl, rfl, by simp [low], hc'⟩, ?_, ?_⟩
    · rintro i2 x Γ2 M2 hx ⟨c, w, spot, rfl, rfl, hw, hlow, hc⟩
      have hi2 := (List.getElem?_eq_some_iff.mp hx).1
      rw [rngD_length] at hi2
      refine jg_name 3 ?_ nd
      refine jss_one (js_set 2 ?_ nd)
      refine je_op (je_var 2 rfl (je_ixS (je_str ?_)))
      refine je_call gD (hr.mono (by decide)) (ja_cons (je_var 0 rfl (ja_cons (je_int (ja_nil ?_)))))
      refine use_draw (n := n + 9 - i2 - 1) 0 rfl (hc.less (by omega)) (by decide) (by decide) fun d2 c2 e0 e1 hc2 => ?_
      obtain ⟨k, k0, k1, ha⟩ := alph_at e0 e1
      refine ⟨alph, d2, k, rfl, rfl, by decide +kernel, ha, opd_addS (by rw [str_len]; show w.length + 1 ≤ 1000000; omega) ?_⟩
      have e : (⟨w.toArray⟩ : Str) ++ ⟨#[k]⟩ = ⟨(w ++ [k]).toArray⟩ := str_app w [k]
      rw [e]
      refine ⟨c2, w ++ [k], _, rfl, rfl, by rw [List.length_append, hw]; rfl, fun c hc => ?_, hc2.less (by omega)⟩
      rcases List.mem_append.mp hc with hc | hc
      · exact hlow c hc
      · rw [List.mem_singleton.mp hc]
        exact ⟨k0, k1⟩
    · rintro Γ2 M2 ⟨c, w, spot, rfl, rfl, hw, hlow, hc⟩
      rw [rngD_length] at hw hc
      refine jss_cons (js_set 4 ?_ nd)
      refine je_op (je_int ?_)
      refine je_call gD (hr.mono (by decide)) (ja_cons (je_var 0 rfl (ja_cons (je_len b.len (je_var 2 rfl ⟨_, .inr (.inr (.inl ⟨_, rfl, by rw [str_len]; omega, rfl⟩)), ja_nil ?_⟩)))))
      refine use_draw (n := n) 0 rfl (hc.less (by omega)) (by rw [str_len]; omega) (by rw [str_len]; omega) fun d2 c2 e0 e1 hc2 => opd_addI ?_
      rw [str_len] at e1
      obtain ⟨pl, hpl⟩ : ∃ pl : Nat, 1 + d2 = (pl : Int) := ⟨(1 + d2).toNat, by omega⟩
      rw [hpl]
      show JSs _ [some (.raw (.ref p)), some (.int (i : Nat)), some (.str ⟨w.toArray⟩), spot, some (.int (pl : Nat))] [(p, c2)] _ _
      refine jss_one (js_ret (je_op (je_op (je_slice (je_var 2 rfl (jo_none (jo_some (je_var 4 rfl ⟨_, rfl, ?_, _, rfl, ?_⟩))))))))
      · show (⟨w.toArray⟩ : Str).length ≤ _
        rw [str_len]
        omega
      · rw [cut_take w pl (by omega)]
        refine je_callT b.str boot_str (ja_cons (je_var 1 rfl (ja_nil (cd_strI ?_ ?_))))
        · have : ((i : Int)).natAbs.log2 ≤ 9 := Nat.le_trans (Nat.log2_le_self _) (by omega)
          omega
        · rw [digit_str (by omega) (by omega)]
          refine opd_addS (by rw [str_len, List.length_take]; show _ + 1 ≤ 1000000; omega) ?_
          have e : (⟨(w.take pl).toArray⟩ : Str) ++ ⟨#[48 + ((i : Int)).toNat]⟩ = ⟨(w.take pl ++ [48 + i]).toArray⟩ := str_app _ [48 + i]
          rw [e]
          refine je_slice (je_var 2 rfl (jo_some (je_var 4 rfl ⟨_, rfl, jo_none ⟨?_, _, rfl, ?_⟩⟩)))
          · show (⟨w.toArray⟩ : Str).length ≤ _
            rw [str_len]
            omega
          · rw [cut_drop w pl (by omega)]
            refine opd_addS (by rw [str_len, str_len, List.length_append, List.length_take, List.length_drop]; show _ + 1 + _ ≤ 1000000; omega) ?_
            rw [str_app]
            exact h _ c2 ⟨w, pl, by omega, by omega, by omega, hlow, by rw [List.append_assoc]; rfl⟩ hc2
end
end K27
end

section
set_option Elab.async false
set_option linter.all false
set_option maxRecDepth 100000
set_option maxHeartbeats 4000000
set_option pp.maxSteps 700
set_option hygiene false
open PySem PyProof.Rows L2 DL
namespace K27
open PySem PySem.Spec PyProof.Rows L2 DL
section
variable {P : Program} {w : World} {K : PySem.W.Frag} {mg : Str → Option Value} {base : Heap} {f : Addr} {fd : FuncData}
theorem scNames : FnScope ["pen", "many", "index"] ["pen", "many"] (defScope sNames) := ⟨rfl, rfl, rfl, by decide +kernel, rfl, by decide +kernel, by decide +kernel⟩
theorem ok_names (F : Fun K "_law_names" "_law_names" sNames f fd) (b : Bn mg) (gS : GFn P w K mg base 2 "_law_shuffled" [] spShuf) (gN : GFn P w K mg base 2 "_law_name" [] spName') : FnOk P w K mg base (L2.CX P w) 3 f fd ["pen", "many"] (spD K spNames) := by
  refine fn_d F scNames (fun ds M Φ Ψ h => ?_) (fun cdv A outer s H E hr ds M Φ Ψ h => ?_)
  · obtain ⟨p, m, n, c, rfl, _⟩ := h
    rfl
  · obtain ⟨p, m, n, c, rfl, hm, rfl, hc, h⟩ := h
    have nd := scNames.nd
    show JSs _ [some (.raw (.ref p)), some (.int (m : Nat)), none] [(p, c)] _ _
    refine jss_one (js_ret ?_)
    refine je_call gS (hr.mono (by decide)) (ja_cons (je_var 0 rfl (ja_cons ?_)))
    refine je_lc (own := [("index", 2)]) nd blk_ok (ji_range1 b.range (je_var 1 rfl ⟨_, rfl, by omega, by omega, ?_⟩))
    have em : ((m : Int)).toNat = m := by omega
    rw [em]
    refine ⟨fun i acc M2 => ∃ c zs, M2 = [(p, c)] ∧ acc = zs.map D.str ∧ zs.length = i ∧ (∀ j z, zs[j]? = some z → NameOf j z) ∧ PenIs (n + m + 10 * (m - i)) c, ⟨c, [], rfl, rfl, rfl, by simp, hc.less (by omega)⟩, fun acc M2 hacc => ?_, fun i x acc M2 hx hacc => ?_⟩
    · obtain ⟨c, zs, rfl, rfl, hl, hz, hc⟩ := hacc
      rw [rngD_length] at hl hc
      refine ja_nil (use_shuf (n := n) 0 rfl (hc.less (by rw [List.length_map]; omega)) (by rw [List.length_map]; omega) fun ys c' hy hc' => ?_)
      exact h ys c' zs hl hz hy hc'
    · obtain ⟨c, zs, rfl, rfl, hl, hz, hc⟩ := hacc
      have hi := (List.getElem?_eq_some_iff.mp hx).1
      rw [rngD_length] at hi
      rw [rngD_get hi] at hx
      cases hx
      refine ⟨by rw [List.length_map]; omega, [2], [_], by decide, fun s H C cl fp => jc_name 2 nd, fun s H C cl fp => jts_nil (ite_t rfl fun s H C cl fp => ?_)⟩
      have e : (0 + ((i : Nat) : Int)) = ((i : Nat) : Int) := by omega
      rw [e]
      show JE _ [some (.raw (.ref p)), some (.int (m : Nat)), some (.int (i : Nat))] _ _ _ _
      refine je_call gN (hr.mono (by decide)) (ja_cons (je_var 0 rfl (ja_cons (je_var 2 rfl (ja_nil ?_)))))
      refine use_name' (n := n + m + 10 * (m - i) - 10) 0 rfl (hc.less (by omega)) (by omega) fun z c' hz' hc' => ?_
      refine ⟨c', zs ++ [z], rfl, by rw [List.map_append]; rfl, by rw [List.length_append, hl]; rfl, fun j y hj => ?_, hc'.less (by omega)⟩
      by_cases hjl : j < zs.length
      · rw [List.getElem?_append_left hjl] at hj
        exact hz j y hj
      · rw [List.getElem?_append_right (by omega)] at hj
        have ej : j - zs.length = 0 := by
          have := (List.getElem?_eq_some_iff.mp hj).1
          simp only [List.length_cons, List.length_nil] at this
          omega
        rw [ej] at hj
        cases hj
        have : j = i := by omega
        rw [this]
        exact hz'
end
end K27
end

section
set_option Elab.async false
set_option linter.all false
set_option maxRecDepth 100000
set_option maxHeartbeats 4000000
set_option pp.maxSteps 700
set_option hygiene false
open PySem PyProof.Rows L2 DL
namespace K27
open PySem PySem.Spec PyProof.Rows L2 DL
abbrev sAlike : Stmt := top 19
/-- plain, not deeper than n -/
def lev : Nat → D → Prop
  | _, .non => True
  | _, .bl _ => True
  | _, .int _ => True
  | _, .str z => PyData.strOk z = true
  | _, .dK kvs => kvs = []
  | n + 1, .tup xs => xs.length ≤ 100000 ∧ ∀ x ∈ xs, lev n x
  | n + 1, .lst xs => xs.length ≤ 100000 ∧ ∀ x ∈ xs, lev n x
  | _, _ => False
def spAlike (n : Nat) : DL.Spec := fun ds M Φ _ => ∃ x, ds = [x, x] ∧ M = [] ∧ lev n x ∧ Φ (.bl true) []
theorem opd_eqD0 {X : Cx} {M : Mem} {Φ : D → Mem → Prop} (hu : X.A.units < cLine) (h : Φ (.bl true) M) : OpD X (compareOp .Eq) (.dK []) (.dK []) M Φ := fun B Γ Hn H σ v u Q S rx ry q => by
  cases rx with
  | @dK a ks _ h1 r1 =>
    cases ry with
    | @dK b ls _ h2 r2 =>
      cases r1
      cases r2
      refine ⟨_, op_eq_dictA hu, a, b, [], [], rfl, rfl, S.rep.sub _ _ h1, S.rep.sub _ _ h2, rfl, ?_⟩
      exact ⟨fun p hp => absurd hp (by simp), q _ _ M Hn H h S (Same.refl _) (.bl true)⟩
section
variable {P : Program} {w : World} {K : PySem.W.Frag} {mg : Str → Option Value} {base : Heap} {f : Addr} {fd : FuncData}
local macro_rules | `(tactic| walk_at "jgo") => `(tactic| repeat' (first | ((with_reducible show JE _ _ _ _ _ _); first | ((with_reducible show JE _ _ _ (.Constant _ _ _) _ _); first | with_reducible refine je_int ?_ | with_reducible refine je_str ?_ | with_reducible refine je_bl ?_ | with_reducible refine je_non ?_) | ((with_reducible show JE _ _ _ (.Name _ _) _ _); first | ((with_reducible show JE _ _ _ (.Name (Str.ofString "one") _) _ _); refine je_var 0 rfl ?_) | ((with_reducible show JE _ _ _ (.Name (Str.ofString "other") _) _ _); refine je_var 1 rfl ?_) | ((with_reducible show JE _ _ _ (.Name (Str.ofString "a") _) _ _); refine je_var 2 rfl ?_) | ((with_reducible show JE _ _ _ (.Name (Str.ofString "b2") _) _ _); refine je_var 3 rfl ?_)) | ((with_reducible show JE _ _ _ (.Call (.Name _ _) _ _ _) _ _); first | ((with_reducible show JE _ _ _ (.Call (.Name (Str.ofString "isinstance") _) _ _ _) _ _); first | ((with_reducible show JE _ _ _ (.Call _ [_, .Name (Str.ofString "str") _] _ _) _ _); refine je_isi b.isinstance b.str boot_str (by decide) ?_) | ((with_reducible show JE _ _ _ (.Call _ [_, .Name (Str.ofString "int") _] _ _) _ _); refine je_isi b.isinstance b.int boot_int (by decide) ?_) | ((with_reducible show JE _ _ _ (.Call _ [_, .Name (Str.ofString "bool") _] _ _) _ _); refine je_isi b.isinstance b.bool boot_bool (by decide) ?_) | ((with_reducible show JE _ _ _ (.Call _ [_, .Name (Str.ofString "tuple") _] _ _) _ _); refine je_isi b.isinstance b.tuple boot_tuple (by decide) ?_) | ((with_reducible show JE _ _ _ (.Call _ [_, .Name (Str.ofString "list") _] _ _) _ _); refine je_isi b.isinstance b.list boot_list (by decide) ?_) | ((with_reducible show JE _ _ _ (.Call _ [_, .Name (Str.ofString "dict") _] _ _) _ _); refine je_isi b.isinstance b.dict boot_dict (by decide) ?_) | ((with_reducible show JE _ _ _ (.Call _ [_, .Tuple [.Name (Str.ofString "tuple") _, .Name (Str.ofString "list") _] _ _] _ _) _ _); refine je_isiP b.isinstance b.tuple boot_tuple b.list boot_list (by decide) (by decide) ?_)) | ((with_reducible show JE _ _ _ (.Call (.Name (Str.ofString "len") _) _ _ _) _ _); refine je_len b.len ?_) | ((with_reducible show JE _ _ _ (.Call (.Name (Str.ofString "all") _) _ _ _) _ _); refine je_callB b.all boot_all ?_) | ((with_reducible show JE _ _ _ (.Call (.Name (Str.ofString "any") _) _ _ _) _ _); refine je_callB b.any boot_any ?_) | ((with_reducible show JE _ _ _ (.Call (.Name (Str.ofString "sorted") _) _ _ _) _ _); refine je_callB b.sorted boot_sorted ?_) | ((with_reducible show JE _ _ _ (.Call (.Name (Str.ofString "min") _) _ _ _) _ _); refine je_callB b.min boot_min ?_) | ((with_reducible show JE _ _ _ (.Call (.Name (Str.ofString "list") _) _ _ _) _ _); refine je_callT b.list boot_list ?_) | ((with_reducible show JE _ _ _ (.Call (.Name (Str.ofString "tuple") _) _ _ _) _ _); refine je_callT b.tuple boot_tuple ?_) | ((with_reducible show JE _ _ _ (.Call (.Name (Str.ofString "str") _) _ _ _) _ _); refine je_callT b.str boot_str ?_) | ((with_reducible show JE _ _ _ (.Call (.Name (Str.ofString "int") _) _ _ _) _ _); refine je_callT b.int boot_int ?_)) | with_reducible refine je_not ?_ | with_reducible refine je_one ?_ | with_reducible refine je_and ?_ | with_reducible refine je_or ?_ | ((with_reducible show JE _ _ _ (.Compare _ [_, _] _ _) _ _); refine je_chain ?_) | ((with_reducible show JE _ _ _ (.Compare _ [_] _ _) _ _); refine je_cmp ?_) | with_reducible refine je_op ?_ | with_reducible refine je_tup ?_ | with_reducible refine je_ifExp ?_) | ((with_reducible show Exists _); refine ⟨_, rfl, ?_⟩) | ((with_reducible show ite _ _ _); first | refine ite_t rfl ?_ | refine ite_f rfl ?_) | ((with_reducible show OpD _ _ _ _ _ _); first | with_reducible refine opd_addI ?_ | with_reducible refine opd_subI ?_ | with_reducible refine opd_ltI ?_ | with_reducible refine opd_leI ?_ | with_reducible refine opd_gtI ?_ | with_reducible refine opd_geI ?_ | with_reducible refine opd_eqI ?_ | with_reducible refine opd_neI ?_ | with_reducible refine opd_eqS ?_ | with_reducible refine opd_neS ?_ | with_reducible refine opd_eqB ?_ | with_reducible refine opd_neB ?_) | ((with_reducible show JA _ _ _ _ _ _); first | with_reducible refine ja_nil ?_ | refine ja_cons ?_) | ((with_reducible show JT _ _ _ _ _ _); first | with_reducible refine jt_not ?_ | ((with_reducible show JT _ _ _ (.BoolOp .Or _ _) _ _); with_reducible refine jt_w (jw_or ?_)) | ((with_reducible show JT _ _ _ (.BoolOp .And _ _) _ _); with_reducible refine jt_w (jw_and ?_)) | ((with_reducible show JT _ _ _ (.Compare _ [_, _] _ _) _ _); refine jt_chain ?_) | ((with_reducible show JT _ _ _ (.Compare _ [_] _ _) _ _); refine jt_cmp ?_) | ((with_reducible show JT _ _ _ (.Call _ _ _ _) _ _); refine jt_val ?_)) | ((with_reducible show JW _ _ _ _ _ _); first | with_reducible refine jw_or1 ?_ | with_reducible refine jw_and1 ?_ | with_reducible refine jw_or ?_ | with_reducible refine jw_and ?_) | ((with_reducible show JSs _ _ _ _ _); first | with_reducible refine jss_one ?_ | with_reducible refine jss_cons ?_ | with_reducible refine jss_nil ?_) | ((with_reducible show JS _ _ _ _ _); first | with_reducible refine js_if ?_ | with_reducible refine js_ret ?_ | with_reducible refine js_retN ?_ | ((with_reducible show JS _ _ _ (.Expr _ _) _); refine js_expr ?_) | ((with_reducible show JS _ _ _ (.Assign [.Name _ _] _ _) _); first | ((with_reducible show JS _ _ _ (.Assign [.Name (Str.ofString "one") _] _ _) _); refine js_set 0 ?_ nd) | ((with_reducible show JS _ _ _ (.Assign [.Name (Str.ofString "other") _] _ _) _); refine js_set 1 ?_ nd) | ((with_reducible show JS _ _ _ (.Assign [.Name (Str.ofString "a") _] _ _) _); refine js_set 2 ?_ nd) | ((with_reducible show JS _ _ _ (.Assign [.Name (Str.ofString "b2") _] _ _) _); refine js_set 3 ?_ nd))) | ((with_reducible show JG _ _ _ (.Name _ _) _ _); first | ((with_reducible show JG _ _ _ (.Name (Str.ofString "one") _) _ _); refine jg_name 0 ?_ nd) | ((with_reducible show JG _ _ _ (.Name (Str.ofString "other") _) _ _); refine jg_name 1 ?_ nd) | ((with_reducible show JG _ _ _ (.Name (Str.ofString "a") _) _ _); refine jg_name 2 ?_ nd) | ((with_reducible show JG _ _ _ (.Name (Str.ofString "b2") _) _ _); refine jg_name 3 ?_ nd))))
theorem scAlike : FnScope ["one", "other", "a", "b"] ["one", "other"] (defScope sAlike) := ⟨rfl, rfl, rfl, by decide +kernel, rfl, by decide +kernel, by decide +kernel⟩
theorem lev_ty {n : Nat} {x : D} (h : lev n x) : ∃ t, tyN x = some t := by
  cases x with
  | ins => cases n <;> exact h.elim
  | raw => cases n <;> exact h.elim
  | exc => cases n <;> exact h.elim
  | _ => exact ⟨_, rfl⟩
/-- what lies no list or tuple deep -/
theorem alike_flat {X : Cx} (hu : X.A.units + 64 < cLine) {n : Nat} {x : D} {M : Mem} {Φ : D → Mem → Prop} (hl : lev n x) (h1 : isT "tuple" x = false) (h2 : isT "list" x = false) (h : Φ (.bl true) M) : OpD X (compareOp .Eq) x x M Φ := by
  cases x with
  | tup xs => cases h1
  | lst xs => cases h2
  | ins => cases n <;> exact hl.elim
  | raw => cases n <;> exact hl.elim
  | exc => cases n <;> exact hl.elim
  | dT => cases n <;> exact hl.elim
  | dK kvs =>
    have e : kvs = [] := by cases n <;> exact hl
    subst e
    exact opd_eqD0 (by omega) h
  | non => exact opd_eqD hu rfl rfl h
  | bl b =>
    refine opd_eqD hu rfl rfl ?_
    have e : eqd (.bl b) (.bl b) = true := by cases b <;> rfl
    rw [e]
    exact h
  | int i =>
    refine opd_eqI ?_
    rw [decide_eq_true rfl]
    exact h
  | str z =>
    refine opd_eqS ?_
    rw [decide_eq_true rfl]
    exact h
theorem ok_alike (F : Fun K "_law_alike" "_law_alike" sAlike f fd) (b : Bn mg) (hm : mg "_law_alike" = some (.ref f)) (hk : PySem.W.keepIn K (.ref f) = true) (hbi : Binds K fd ["one", "other"] []) : ∀ n, FnOk P w K mg base (L2.CX P w) (n + 1) f fd ["one", "other"] (spD K (spAlike n)) := by
  intro n
  induction n with
  | zero =>
    refine fn_d F scAlike (fun ds M Φ Ψ h => ?_) (fun cdv A outer s H E hr ds M Φ Ψ h => ?_)
    · obtain ⟨x, rfl, _⟩ := h
      rfl
    · obtain ⟨x, rfl, rfl, hl, h⟩ := h
      have hu := hr.units
      obtain ⟨t, ht⟩ := lev_ty hl
      show JSs _ [some x, some x, none, none] [] _ _
      have h1 : isT "tuple" x = false := by cases x <;> first | rfl | exact hl.elim
      have h2 : isT "list" x = false := by cases x <;> first | rfl | exact hl.elim
      refine jss_cons (js_if (jt_w (jw_and (jt_val (je_isiP b.isinstance b.tuple boot_tuple b.list boot_list (by decide) (by decide) (je_var 0 rfl ⟨t, ht, _, rfl, ite_f ?_ (ite_f rfl (jss_nil ?_))⟩))))))
      · rw [h1, h2]; rfl
      · refine jss_cons (js_if (jt_cmp (je_isi b.isinstance b.bool boot_bool (by decide) (je_var 0 rfl ⟨t, ht, je_isi b.isinstance b.bool boot_bool (by decide) (je_var 1 rfl ⟨t, ht, opd_neB ⟨_, rfl, ite_f ?_ (jss_nil ?_)⟩⟩)⟩))))
        · rw [decide_eq_true rfl]; rfl
        · exact jss_one (js_ret (je_cmp (je_var 0 rfl (je_var 1 rfl (alike_flat hu hl h1 h2 h)))))
  | succ n ih =>
    have gA : GFn P w K mg base (n + 1) "_law_alike" [] (spAlike n) := ⟨⟨f, fd, ["one", "other"], [], [], ih, hm, hk, hbi, .nil, fun _ => .nil⟩⟩
    refine fn_d F scAlike (fun ds M Φ Ψ h => ?_) (fun cdv A outer s H E hr ds M Φ Ψ h => ?_)
    · obtain ⟨x, rfl, _⟩ := h
      rfl
    · obtain ⟨x, rfl, rfl, hl, h⟩ := h
      have hu := hr.units
      have nd := scAlike.nd
      obtain ⟨t, ht⟩ := lev_ty hl
      show JSs _ [some x, some x, none, none] [] _ _
      refine jss_cons (js_if (jt_w (jw_and (jt_val (je_isiP b.isinstance b.tuple boot_tuple b.list boot_list (by decide) (by decide) (je_var 0 rfl ⟨t, ht, _, rfl, ?_⟩))))))
      by_cases hsq : (isT "tuple" x || isT "list" x) = true
      · refine ite_t hsq (jw_and1 (jt_val (je_isiP b.isinstance b.tuple boot_tuple b.list boot_list (by decide) (by decide) (je_var 1 rfl ⟨t, ht, _, rfl, ite_t hsq ?_⟩))))
        obtain ⟨xs, hx, hlen, hall⟩ : ∃ xs, (x = .tup xs ∨ x = .lst xs) ∧ xs.length ≤ 100000 ∧ ∀ y ∈ xs, lev n y := by
          cases x with
          | tup xs => exact ⟨xs, .inl rfl, hl⟩
          | lst xs => exact ⟨xs, .inr rfl, hl⟩
          | _ => exact absurd (show false = true from hsq) Bool.false_ne_true
        have hlenE : ∀ {M1 : Mem}, ∃ n : Nat, ((∃ xs, x = .lst xs ∧ n = xs.length) ∨ (∃ xs, x = .tup xs ∧ n = xs.length) ∨ (∃ z : Str, x = .str z ∧ z.length ≤ 1000000 ∧ n = z.length) ∨ (∃ xs, x = .dK xs ∧ n = xs.length) ∨ (∃ xs, x = .dT xs ∧ n = xs.length) ∨ ∃ (k : Nat) (t : Addr) (xs : List D), x = .raw (.ref t) ∧ M1[k]? = some (t, .lst xs) ∧ n = xs.length) ∧ n = xs.length := fun {M1} => by
          rcases hx with rfl | rfl
          · exact ⟨_, .inr (.inl ⟨_, rfl, rfl⟩), rfl⟩
          · exact ⟨_, .inl ⟨_, rfl, rfl⟩, rfl⟩
        refine jss_cons (js_if (jt_w (jw_or (jt_cmp (je_isi b.isinstance b.tuple boot_tuple (by decide) (je_var 0 rfl ⟨t, ht, je_isi b.isinstance b.tuple boot_tuple (by decide) (je_var 1 rfl ⟨t, ht, opd_neB ⟨_, rfl, ite_f ?_ (jw_or1 ?_)⟩⟩)⟩))))))
        · rw [decide_eq_true rfl]; rfl
        · obtain ⟨m, hm1, e1⟩ := hlenE (M1 := [])
          refine jt_cmp (je_len b.len (je_var 0 rfl ⟨m, hm1, je_len b.len (je_var 1 rfl ⟨m, hm1, opd_neI ⟨_, rfl, ite_f ?_ (jss_nil ?_)⟩⟩)⟩))
          · rw [decide_eq_true rfl]; rfl
          · refine jss_one (js_ret (je_callB b.all boot_all (ja_cons (je_lc (own := [("a", 2), ("b", 3)]) nd blk_ok (ji_zip b.zip ?_)))))
            refine ja_cons (je_var 0 rfl (ja_cons (je_var 1 rfl (ja_nil ⟨xs, xs, ?_, rfl, ?_⟩))))
            · rcases hx with rfl | rfl
              · exact .inr rfl
              · exact .inl rfl
            · refine lc_map (fun _ => .bl true) (by rw [List.length_zipWith]; omega) ?_ fun y hy => ?_
              · have e : (List.zipWith (fun x y => D.tup [x, y]) xs xs).map (fun _ => D.bl true) = (List.replicate xs.length true).map D.bl := by
                  rw [List.map_replicate, List.map_const', List.length_zipWith, Nat.min_self]
                refine ja_nil ?_
                rw [e]
                refine cd_all rfl ?_
                have e2 : (List.replicate xs.length true).all id = true := by simp
                rw [e2]
                exact h
              · obtain ⟨z, hz, rfl⟩ : ∃ z, z ∈ xs ∧ y = .tup [z, z] := by
                  rw [List.zipWith_self] at hy
                  obtain ⟨z, hz, e⟩ := List.mem_map.mp hy
                  exact ⟨z, hz, e.symm⟩
                refine ⟨[2, 3], [z, z], by decide, fun s H C cl fp => jc_tup (jcs_cons 2 (jcs_cons 3 jcs_nil nd) nd) rfl, fun s H C cl fp => ?_⟩
                show JE _ [some x, some x, some z, some z] _ _ _ _
                exact je_call gA (hr.mono (Nat.le_refl _)) (ja_cons (je_var 2 rfl (ja_cons (je_var 3 rfl (ja_nil (.none ⟨z, rfl, rfl, hall z hz, rfl, rfl⟩))))))
      · rw [Bool.not_eq_true] at hsq
        have h1 : isT "tuple" x = false := (Bool.or_eq_false_iff.mp hsq).1
        have h2 : isT "list" x = false := (Bool.or_eq_false_iff.mp hsq).2
        refine ite_f hsq (ite_f rfl (jss_nil ?_))
        refine jss_cons (js_if (jt_cmp (je_isi b.isinstance b.bool boot_bool (by decide) (je_var 0 rfl ⟨t, ht, je_isi b.isinstance b.bool boot_bool (by decide) (je_var 1 rfl ⟨t, ht, opd_neB ⟨_, rfl, ite_f ?_ (jss_nil ?_)⟩⟩)⟩))))
        · rw [decide_eq_true rfl]; rfl
        · exact jss_one (js_ret (je_cmp (je_var 0 rfl (je_var 1 rfl (alike_flat hu hl h1 h2 h)))))
end
end K27
end

section
set_option Elab.async false
set_option linter.all false
set_option maxRecDepth 100000
set_option maxHeartbeats 4000000
set_option pp.maxSteps 700
set_option hygiene false
open PySem PyProof.Rows L2 DL
namespace K27
open PySem PySem.Spec PyProof.Rows L2 DL
abbrev sIsNm : Stmt := top 20
abbrev sPlanRows : Stmt := top 21
abbrev sIsNum : Stmt := top 22
def an36 : Str := "abcdefghijklmnopqrstuvwxyz0123456789"
theorem an36_list : an36.cps.toList = (List.range 26).map (97 + ·) ++ (List.range 10).map (48 + ·) := by decide +kernel
theorem mem_alph {c : Nat} : c ∈ alph.cps.toList ↔ 97 ≤ c ∧ c ≤ 122 := by
  rw [alph_list, List.mem_map]
  constructor
  · rintro ⟨i, hi, rfl⟩
    rw [List.mem_range] at hi
    omega
  · intro h
    exact ⟨c - 97, List.mem_range.mpr (by omega), by omega⟩
theorem mem_36 {c : Nat} : c ∈ an36.cps.toList ↔ (97 ≤ c ∧ c ≤ 122) ∨ (48 ≤ c ∧ c ≤ 57) := by
  rw [an36_list, List.mem_append, List.mem_map, List.mem_map]
  constructor
  · rintro (⟨i, hi, rfl⟩ | ⟨i, hi, rfl⟩)
    · rw [List.mem_range] at hi
      omega
    · rw [List.mem_range] at hi
      omega
  · rintro (h | h)
    · exact .inl ⟨c - 97, List.mem_range.mpr (by omega), by omega⟩
    · exact .inr ⟨c - 48, List.mem_range.mpr (by omega), by omega⟩
theorem uni : ∀ c, c < 128 → Unicode.isAlnum c = (decide (48 ≤ c ∧ c ≤ 57) || decide (97 ≤ c ∧ c ≤ 122) || decide (65 ≤ c ∧ c ≤ 90)) ∧ Unicode.isLower c = decide (97 ≤ c ∧ c ≤ 122) ∧ Unicode.isUpper c = decide (65 ≤ c ∧ c ≤ 90) ∧ Unicode.isTitle c = false ∧ Unicode.isAlpha c = (decide (97 ≤ c ∧ c ≤ 122) || decide (65 ≤ c ∧ c ≤ 90)) := by decide +kernel
def lawNm (z : Str) : Bool := decide (1 ≤ (z.length : Int)) && decide ((z.length : Int) ≤ 12) && decide (z.cps.toList.headD 0 ∈ alph.cps.toList) && z.cps.toList.all fun c => decide (c ∈ an36.cps.toList)
theorem nm_eq (z : Str) : isName (.str z) = lawNm z := by
  have hz : isName (.str z) = (decide (1 ≤ (z.length : Int)) && decide ((z.length : Int) ≤ 12) && Txt.isascii z && Txt.isalnum z && Txt.islower z && Txt.isalpha ⟨#[z.cps.toList.headD 0]⟩) := rfl
  rw [hz]
  unfold lawNm
  have hl : z.length = z.cps.toList.length := by simp [Str.length]
  by_cases h1 : 1 ≤ (z.length : Int)
  · rw [decide_eq_true h1]
    by_cases h2 : (z.length : Int) ≤ 12
    · rw [decide_eq_true h2]
      simp only [Bool.true_and]
      have hpos : z.length > 0 := by omega
      have a1 : Txt.isascii z = z.cps.toList.all fun c => decide (c < 128) := by
        unfold Txt.isascii
        rw [Array.all_toList]
      have a2 : Txt.isalnum z = z.cps.toList.all Unicode.isAlnum := by
        unfold Txt.isalnum
        rw [decide_eq_true hpos, Bool.true_and, Array.all_toList]
      have a3 : Txt.islower z = (z.cps.toList.any Unicode.isLower && !z.cps.toList.any fun c => Unicode.isUpper c || Unicode.isTitle c) := by
        unfold Txt.islower
        rw [Array.any_toList, Array.any_toList]
      have a4 : ∀ a, Txt.isalpha ⟨#[a]⟩ = Unicode.isAlpha a := fun a => by
        show (decide (1 > 0) && (#[a].all Unicode.isAlpha)) = _
        simp
      rw [a1, a2, a3, a4]
      generalize z.cps.toList = l at *
      cases l with
      | nil =>
        rw [List.length_nil] at hl
        omega
      | cons a l =>
        rw [Bool.eq_iff_iff]
        simp only [List.headD_cons, Bool.true_and, Bool.and_eq_true, List.all_eq_true, decide_eq_true_eq, List.any_eq_true, Bool.not_eq_true', mem_alph, mem_36]
        constructor
        · rintro ⟨⟨⟨h3, h4⟩, h5, h6⟩, h7⟩
          have up : ∀ c ∈ a :: l, (97 ≤ c ∧ c ≤ 122) ∨ (48 ≤ c ∧ c ≤ 57) := fun c hc => by
            obtain ⟨u1, u2, u3, u4, u5⟩ := uni c (h3 c hc)
            have h4' := h4 c hc
            rw [u1] at h4'
            have nu : ¬ (65 ≤ c ∧ c ≤ 90) := fun k => by
              have : (List.any (a :: l) fun c => Unicode.isUpper c || Unicode.isTitle c) = true := List.any_eq_true.mpr ⟨c, hc, by rw [u3, decide_eq_true k]; rfl⟩
              rw [this] at h6
              cases h6
            simp only [Bool.or_eq_true, decide_eq_true_eq] at h4'
            omega
          refine ⟨?_, up⟩
          obtain ⟨u1, u2, u3, u4, u5⟩ := uni a (h3 a List.mem_cons_self)
          have h7' : Unicode.isAlpha a = true := h7
          rw [u5] at h7'
          simp only [Bool.or_eq_true, decide_eq_true_eq] at h7'
          have := up a List.mem_cons_self
          omega
        · rintro ⟨h3, h4⟩
          have lt : ∀ c ∈ a :: l, c < 128 := fun c hc => by
            have := h4 c hc
            omega
          refine ⟨⟨⟨lt, fun c hc => ?_⟩, ⟨a, List.mem_cons_self, ?_⟩, ?_⟩, ?_⟩
          · rw [(uni c (lt c hc)).1]
            have := h4 c hc
            simp only [Bool.or_eq_true, decide_eq_true_eq]
            omega
          · rw [(uni a (lt a List.mem_cons_self)).2.1]
            exact decide_eq_true h3
          · rw [Bool.eq_false_iff]
            intro hh
            obtain ⟨c, hc, hu⟩ := List.any_eq_true.mp hh
            obtain ⟨u1, u2, u3, u4, u5⟩ := uni c (lt c hc)
            rw [u3, u4, Bool.or_false] at hu
            have := of_decide_eq_true hu
            have := h4 c hc
            omega
          · have : Unicode.isAlpha a = true := by
              rw [(uni a (lt a List.mem_cons_self)).2.2.2.2, decide_eq_true h3]
              rfl
            exact this
    · rw [decide_eq_false h2]
      simp
  · rw [decide_eq_false h1]
    simp
end K27
end

section
set_option Elab.async false
set_option linter.all false
set_option maxRecDepth 100000
set_option maxHeartbeats 4000000
set_option pp.maxSteps 700
set_option hygiene false
open PySem PyProof.Rows L2 DL
namespace K27
open PySem PySem.Spec PyProof.Rows L2 DL
noncomputable def spNum : DL.Spec := DL.pureS (fun ds => ∃ d, ds = [d] ∧ okv d) fun ds => .bl (num (ds.headD .non))
section
variable {P : Program} {w : World} {K : PySem.W.Frag} {mg : Str → Option Value} {base : Heap} {f : Addr} {fd : FuncData}
section
local macro_rules | `(tactic| walk_at "jgo") => `(tactic| repeat' (first | ((with_reducible show JE _ _ _ _ _ _); first | ((with_reducible show JE _ _ _ (.Constant _ _ _) _ _); first | with_reducible refine je_int ?_ | with_reducible refine je_str ?_ | with_reducible refine je_bl ?_ | with_reducible refine je_non ?_) | ((with_reducible show JE _ _ _ (.Name _ _) _ _); first | ((with_reducible show JE _ _ _ (.Name (Str.ofString "value") _) _ _); refine je_var 0 rfl ?_) | ((with_reducible show JE _ _ _ (.Name (Str.ofString "sign") _) _ _); refine je_var 1 rfl ?_)) | ((with_reducible show JE _ _ _ (.Call (.Name _ _) _ _ _) _ _); first | ((with_reducible show JE _ _ _ (.Call (.Name (Str.ofString "isinstance") _) _ _ _) _ _); first | ((with_reducible show JE _ _ _ (.Call _ [_, .Name (Str.ofString "str") _] _ _) _ _); refine je_isi b.isinstance b.str boot_str (by decide) ?_) | ((with_reducible show JE _ _ _ (.Call _ [_, .Name (Str.ofString "int") _] _ _) _ _); refine je_isi b.isinstance b.int boot_int (by decide) ?_) | ((with_reducible show JE _ _ _ (.Call _ [_, .Name (Str.ofString "bool") _] _ _) _ _); refine je_isi b.isinstance b.bool boot_bool (by decide) ?_) | ((with_reducible show JE _ _ _ (.Call _ [_, .Name (Str.ofString "tuple") _] _ _) _ _); refine je_isi b.isinstance b.tuple boot_tuple (by decide) ?_) | ((with_reducible show JE _ _ _ (.Call _ [_, .Name (Str.ofString "list") _] _ _) _ _); refine je_isi b.isinstance b.list boot_list (by decide) ?_) | ((with_reducible show JE _ _ _ (.Call _ [_, .Name (Str.ofString "dict") _] _ _) _ _); refine je_isi b.isinstance b.dict boot_dict (by decide) ?_) | ((with_reducible show JE _ _ _ (.Call _ [_, .Tuple [.Name (Str.ofString "tuple") _, .Name (Str.ofString "list") _] _ _] _ _) _ _); refine je_isiP b.isinstance b.tuple boot_tuple b.list boot_list (by decide) (by decide) ?_)) | ((with_reducible show JE _ _ _ (.Call (.Name (Str.ofString "len") _) _ _ _) _ _); refine je_len b.len ?_) | ((with_reducible show JE _ _ _ (.Call (.Name (Str.ofString "all") _) _ _ _) _ _); refine je_callB b.all boot_all ?_) | ((with_reducible show JE _ _ _ (.Call (.Name (Str.ofString "any") _) _ _ _) _ _); refine je_callB b.any boot_any ?_) | ((with_reducible show JE _ _ _ (.Call (.Name (Str.ofString "sorted") _) _ _ _) _ _); refine je_callB b.sorted boot_sorted ?_) | ((with_reducible show JE _ _ _ (.Call (.Name (Str.ofString "min") _) _ _ _) _ _); refine je_callB b.min boot_min ?_) | ((with_reducible show JE _ _ _ (.Call (.Name (Str.ofString "list") _) _ _ _) _ _); refine je_callT b.list boot_list ?_) | ((with_reducible show JE _ _ _ (.Call (.Name (Str.ofString "tuple") _) _ _ _) _ _); refine je_callT b.tuple boot_tuple ?_) | ((with_reducible show JE _ _ _ (.Call (.Name (Str.ofString "str") _) _ _ _) _ _); refine je_callT b.str boot_str ?_) | ((with_reducible show JE _ _ _ (.Call (.Name (Str.ofString "int") _) _ _ _) _ _); refine je_callT b.int boot_int ?_)) | with_reducible refine je_not ?_ | with_reducible refine je_one ?_ | with_reducible refine je_and ?_ | with_reducible refine je_or ?_ | ((with_reducible show JE _ _ _ (.Compare _ [_, _] _ _) _ _); refine je_chain ?_) | ((with_reducible show JE _ _ _ (.Compare _ [_] _ _) _ _); refine je_cmp ?_) | with_reducible refine je_op ?_ | with_reducible refine je_tup ?_ | with_reducible refine je_ifExp ?_) | ((with_reducible show Exists _); refine ⟨_, rfl, ?_⟩) | ((with_reducible show ite _ _ _); first | refine ite_t rfl ?_ | refine ite_f rfl ?_) | ((with_reducible show OpD _ _ _ _ _ _); first | with_reducible refine opd_addI ?_ | with_reducible refine opd_subI ?_ | with_reducible refine opd_ltI ?_ | with_reducible refine opd_leI ?_ | with_reducible refine opd_gtI ?_ | with_reducible refine opd_geI ?_ | with_reducible refine opd_eqI ?_ | with_reducible refine opd_neI ?_ | with_reducible refine opd_eqS ?_ | with_reducible refine opd_neS ?_ | with_reducible refine opd_eqB ?_ | with_reducible refine opd_neB ?_) | ((with_reducible show JA _ _ _ _ _ _); first | with_reducible refine ja_nil ?_ | refine ja_cons ?_) | ((with_reducible show JT _ _ _ _ _ _); first | with_reducible refine jt_not ?_ | ((with_reducible show JT _ _ _ (.BoolOp .Or _ _) _ _); with_reducible refine jt_w (jw_or ?_)) | ((with_reducible show JT _ _ _ (.BoolOp .And _ _) _ _); with_reducible refine jt_w (jw_and ?_)) | ((with_reducible show JT _ _ _ (.Compare _ [_, _] _ _) _ _); refine jt_chain ?_) | ((with_reducible show JT _ _ _ (.Compare _ [_] _ _) _ _); refine jt_cmp ?_) | ((with_reducible show JT _ _ _ (.Call _ _ _ _) _ _); refine jt_val ?_)) | ((with_reducible show JW _ _ _ _ _ _); first | with_reducible refine jw_or1 ?_ | with_reducible refine jw_and1 ?_ | with_reducible refine jw_or ?_ | with_reducible refine jw_and ?_) | ((with_reducible show JSs _ _ _ _ _); first | with_reducible refine jss_one ?_ | with_reducible refine jss_cons ?_ | with_reducible refine jss_nil ?_) | ((with_reducible show JS _ _ _ _ _); first | with_reducible refine js_if ?_ | with_reducible refine js_ret ?_ | with_reducible refine js_retN ?_ | ((with_reducible show JS _ _ _ (.Expr _ _) _); refine js_expr ?_) | ((with_reducible show JS _ _ _ (.Assign [.Name _ _] _ _) _); first | ((with_reducible show JS _ _ _ (.Assign [.Name (Str.ofString "value") _] _ _) _); refine js_set 0 ?_ nd) | ((with_reducible show JS _ _ _ (.Assign [.Name (Str.ofString "sign") _] _ _) _); refine js_set 1 ?_ nd))) | ((with_reducible show JG _ _ _ (.Name _ _) _ _); first | ((with_reducible show JG _ _ _ (.Name (Str.ofString "value") _) _ _); refine jg_name 0 ?_ nd) | ((with_reducible show JG _ _ _ (.Name (Str.ofString "sign") _) _ _); refine jg_name 1 ?_ nd))))
theorem scIsNm : FnScope ["value", "sign"] ["value"] (defScope sIsNm) := ⟨rfl, rfl, rfl, by decide +kernel, rfl, by decide +kernel, by decide +kernel⟩
theorem ok_isNm (F : Fun K "_law_is_name" "_law_is_name" sIsNm f fd) (b : Bn mg) : FnOk P w K mg base (L2.CX P w) 1 f fd ["value"] (spD K spName) := by
  refine fn_d F scIsNm (fun ds M Φ Ψ h => ?_) (fun cdv A outer s H E hr ds M Φ Ψ h => ?_)
  · obtain ⟨_, ⟨d, rfl, _⟩, _⟩ := h
    rfl
  · obtain ⟨rfl, ⟨d, rfl, ⟨n, hn⟩, hs⟩, h⟩ := h
    replace h : Φ (.bl (isName d)) [] := h
    have hu := hr.units
    have nd := scIsNm.nd
    show JSs _ [some d, none] [] _ _
    refine jss_cons ?_
    cases d with
    | ins => cases hn
    | raw => cases hn
    | exc => cases hn
    | str z =>
      rw [nm_eq] at h
      unfold lawNm at h
      walk_at "jgo"
      refine ⟨z.length, .inr (.inr (.inl ⟨z, rfl, hs z rfl, rfl⟩)), ?_⟩
      walk_at "jgo"
      refine ite_2 (fun c1 => ?_) fun c1 => ?_
      · walk_at "jgo"
        rw [c1] at h
        refine ite_2 (fun c2 => ite_t rfl ?_) fun c2 => ?_
        · walk_at "jgo"
          rw [Bool.not_eq_true'] at c2
          rw [c2] at h
          exact h
        · rw [Bool.not_eq_false'] at c2
          rw [c2] at h
          refine jw_or1 (jt_cmp (je_ixS (je_var 0 rfl (je_int ⟨z, 0, _, rfl, rfl, hs z rfl, at_head z (of_decide_eq_true c1), je_str (opd_notInS ⟨_, rfl, ?_⟩)⟩))))
          have h : Φ (.bl (decide (z.cps.toList.headD 0 ∈ alph.cps.toList) && z.cps.toList.all fun c => decide (c ∈ an36.cps.toList))) [] := h
          refine ite_2 (fun c3 => ?_) fun c3 => ?_
          · walk_at "jgo"
            rw [Bool.not_eq_true'] at c3
            have c3' : decide (z.cps.toList.headD 0 ∈ alph.cps.toList) = false := c3
            rw [c3'] at h
            exact h
          · rw [Bool.not_eq_false'] at c3
            have c3' : decide (z.cps.toList.headD 0 ∈ alph.cps.toList) = true := c3
            rw [c3', Bool.true_and] at h
            walk_at "jgo"
            refine je_lc (own := [("sign", 1)]) nd blk_ok (ji_str (je_var 0 rfl ⟨z, rfl, ?_⟩))
            have hz : z.cps.toList.length ≤ 1000000 := by
              have := hs z rfl
              have e : z.length = z.cps.toList.length := by simp [Str.length]
              omega
            refine lc_map (fun x => match x with | .str s => .bl (decide (s.cps.toList.headD 0 ∈ an36.cps.toList)) | _ => .non) (by rw [List.length_map]; exact hz) ?_ fun x hx => ?_
            · have e : (z.cps.toList.map fun c => D.str ⟨#[c]⟩).map (fun x => match x with | .str s => D.bl (decide (s.cps.toList.headD 0 ∈ an36.cps.toList)) | _ => .non) = (z.cps.toList.map fun c => decide (c ∈ an36.cps.toList)).map D.bl := by
                rw [List.map_map, List.map_map]
                rfl
              refine ja_nil ?_
              rw [e]
              refine cd_all rfl ?_
              rw [List.all_map]
              exact h
            · obtain ⟨c, _, rfl⟩ := List.mem_map.mp hx
              refine ⟨[1], [_], by decide, fun s H C cl fp => jc_name 1 nd, fun s H C cl fp => ?_⟩
              show JE _ [some (.str z), some (.str ⟨#[c]⟩)] _ _ _ _
              exact je_cmp (je_var 1 rfl (je_str (opd_inS ⟨rfl, rfl⟩)))
      · rw [c1] at h
        walk_at "jgo"
        exact h
    | _ =>
      walk_at "jgo"
      exact h
end
section
local macro_rules | `(tactic| walk_at "jgo") => `(tactic| repeat' (first | ((with_reducible show JE _ _ _ _ _ _); first | ((with_reducible show JE _ _ _ (.Constant _ _ _) _ _); first | with_reducible refine je_int ?_ | with_reducible refine je_str ?_ | with_reducible refine je_bl ?_ | with_reducible refine je_non ?_) | ((with_reducible show JE _ _ _ (.Name _ _) _ _); first | ((with_reducible show JE _ _ _ (.Name (Str.ofString "value") _) _ _); refine je_var 0 rfl ?_)) | ((with_reducible show JE _ _ _ (.Call (.Name _ _) _ _ _) _ _); first | ((with_reducible show JE _ _ _ (.Call (.Name (Str.ofString "isinstance") _) _ _ _) _ _); first | ((with_reducible show JE _ _ _ (.Call _ [_, .Name (Str.ofString "str") _] _ _) _ _); refine je_isi b.isinstance b.str boot_str (by decide) ?_) | ((with_reducible show JE _ _ _ (.Call _ [_, .Name (Str.ofString "int") _] _ _) _ _); refine je_isi b.isinstance b.int boot_int (by decide) ?_) | ((with_reducible show JE _ _ _ (.Call _ [_, .Name (Str.ofString "bool") _] _ _) _ _); refine je_isi b.isinstance b.bool boot_bool (by decide) ?_) | ((with_reducible show JE _ _ _ (.Call _ [_, .Name (Str.ofString "tuple") _] _ _) _ _); refine je_isi b.isinstance b.tuple boot_tuple (by decide) ?_) | ((with_reducible show JE _ _ _ (.Call _ [_, .Name (Str.ofString "list") _] _ _) _ _); refine je_isi b.isinstance b.list boot_list (by decide) ?_) | ((with_reducible show JE _ _ _ (.Call _ [_, .Name (Str.ofString "dict") _] _ _) _ _); refine je_isi b.isinstance b.dict boot_dict (by decide) ?_) | ((with_reducible show JE _ _ _ (.Call _ [_, .Tuple [.Name (Str.ofString "tuple") _, .Name (Str.ofString "list") _] _ _] _ _) _ _); refine je_isiP b.isinstance b.tuple boot_tuple b.list boot_list (by decide) (by decide) ?_)) | ((with_reducible show JE _ _ _ (.Call (.Name (Str.ofString "len") _) _ _ _) _ _); refine je_len b.len ?_) | ((with_reducible show JE _ _ _ (.Call (.Name (Str.ofString "all") _) _ _ _) _ _); refine je_callB b.all boot_all ?_) | ((with_reducible show JE _ _ _ (.Call (.Name (Str.ofString "any") _) _ _ _) _ _); refine je_callB b.any boot_any ?_) | ((with_reducible show JE _ _ _ (.Call (.Name (Str.ofString "sorted") _) _ _ _) _ _); refine je_callB b.sorted boot_sorted ?_) | ((with_reducible show JE _ _ _ (.Call (.Name (Str.ofString "min") _) _ _ _) _ _); refine je_callB b.min boot_min ?_) | ((with_reducible show JE _ _ _ (.Call (.Name (Str.ofString "list") _) _ _ _) _ _); refine je_callT b.list boot_list ?_) | ((with_reducible show JE _ _ _ (.Call (.Name (Str.ofString "tuple") _) _ _ _) _ _); refine je_callT b.tuple boot_tuple ?_) | ((with_reducible show JE _ _ _ (.Call (.Name (Str.ofString "str") _) _ _ _) _ _); refine je_callT b.str boot_str ?_) | ((with_reducible show JE _ _ _ (.Call (.Name (Str.ofString "int") _) _ _ _) _ _); refine je_callT b.int boot_int ?_)) | with_reducible refine je_not ?_ | with_reducible refine je_one ?_ | with_reducible refine je_and ?_ | with_reducible refine je_or ?_ | ((with_reducible show JE _ _ _ (.Compare _ [_, _] _ _) _ _); refine je_chain ?_) | ((with_reducible show JE _ _ _ (.Compare _ [_] _ _) _ _); refine je_cmp ?_) | with_reducible refine je_op ?_ | with_reducible refine je_tup ?_ | with_reducible refine je_ifExp ?_) | ((with_reducible show Exists _); refine ⟨_, rfl, ?_⟩) | ((with_reducible show ite _ _ _); first | refine ite_t rfl ?_ | refine ite_f rfl ?_) | ((with_reducible show OpD _ _ _ _ _ _); first | with_reducible refine opd_addI ?_ | with_reducible refine opd_subI ?_ | with_reducible refine opd_ltI ?_ | with_reducible refine opd_leI ?_ | with_reducible refine opd_gtI ?_ | with_reducible refine opd_geI ?_ | with_reducible refine opd_eqI ?_ | with_reducible refine opd_neI ?_ | with_reducible refine opd_eqS ?_ | with_reducible refine opd_neS ?_ | with_reducible refine opd_eqB ?_ | with_reducible refine opd_neB ?_) | ((with_reducible show JA _ _ _ _ _ _); first | with_reducible refine ja_nil ?_ | refine ja_cons ?_) | ((with_reducible show JT _ _ _ _ _ _); first | with_reducible refine jt_not ?_ | ((with_reducible show JT _ _ _ (.BoolOp .Or _ _) _ _); with_reducible refine jt_w (jw_or ?_)) | ((with_reducible show JT _ _ _ (.BoolOp .And _ _) _ _); with_reducible refine jt_w (jw_and ?_)) | ((with_reducible show JT _ _ _ (.Compare _ [_, _] _ _) _ _); refine jt_chain ?_) | ((with_reducible show JT _ _ _ (.Compare _ [_] _ _) _ _); refine jt_cmp ?_) | ((with_reducible show JT _ _ _ (.Call _ _ _ _) _ _); refine jt_val ?_)) | ((with_reducible show JW _ _ _ _ _ _); first | with_reducible refine jw_or1 ?_ | with_reducible refine jw_and1 ?_ | with_reducible refine jw_or ?_ | with_reducible refine jw_and ?_) | ((with_reducible show JSs _ _ _ _ _); first | with_reducible refine jss_one ?_ | with_reducible refine jss_cons ?_ | with_reducible refine jss_nil ?_) | ((with_reducible show JS _ _ _ _ _); first | with_reducible refine js_if ?_ | with_reducible refine js_ret ?_ | with_reducible refine js_retN ?_ | ((with_reducible show JS _ _ _ (.Expr _ _) _); refine js_expr ?_) | ((with_reducible show JS _ _ _ (.Assign [.Name _ _] _ _) _); first | ((with_reducible show JS _ _ _ (.Assign [.Name (Str.ofString "value") _] _ _) _); refine js_set 0 ?_ nd))) | ((with_reducible show JG _ _ _ (.Name _ _) _ _); first | ((with_reducible show JG _ _ _ (.Name (Str.ofString "value") _) _ _); refine jg_name 0 ?_ nd))))
theorem scIsNum : FnScope ["value"] ["value"] (defScope sIsNum) := ⟨rfl, rfl, rfl, by decide +kernel, rfl, by decide +kernel, by decide +kernel⟩
theorem ok_isNum (F : Fun K "_law_is_number" "_law_is_number" sIsNum f fd) (b : Bn mg) : FnOk P w K mg base (L2.CX P w) 1 f fd ["value"] (spD K spNum) := by
  refine fn_d F scIsNum (fun ds M Φ Ψ h => ?_) (fun cdv A outer s H E hr ds M Φ Ψ h => ?_)
  · obtain ⟨_, ⟨d, rfl, _⟩, _⟩ := h
    rfl
  · obtain ⟨rfl, ⟨d, rfl, ⟨n, hn⟩, hs⟩, h⟩ := h
    replace h : Φ (.bl (num d)) [] := h
    have nd := scIsNum.nd
    show JSs _ [some d] [] _ _
    refine jss_one ?_
    cases d with
    | ins => cases hn
    | raw => cases hn
    | exc => cases hn
    | int i =>
      walk_at "jgo"
      refine ite_2 (fun c1 => ?_) fun c1 => ?_
      · walk_at "jgo"
        refine opd_powI ⟨by decide, by decide, by decide⟩ (opd_ltI ?_)
        have e : num (.int i) = decide (i < 10 ^ (40 : Int).toNat) := by
          show (decide ((0 : Int) ≤ i) && decide (i ≤ MOST)) = _
          rw [c1, Bool.true_and]
          unfold MOST
          refine decide_eq_decide.mpr ?_
          show i ≤ 10 ^ 40 - 1 ↔ i < 10 ^ 40
          omega
        rw [e] at h
        exact h
      · have e : num (.int i) = false := by
          show (decide ((0 : Int) ≤ i) && decide (i ≤ MOST)) = _
          rw [c1]
          rfl
        rw [e] at h
        exact h
    | _ =>
      walk_at "jgo"
      exact h
end
end
end K27
end

section
set_option Elab.async false
set_option linter.all false
set_option maxRecDepth 100000
set_option maxHeartbeats 4000000
set_option pp.maxSteps 700
set_option hygiene false
open PySem PyProof.Rows L2 DL
namespace K27
open PySem PySem.Spec PyProof.Rows L2 DL
abbrev sAreRows : Stmt := top 23
def IsItem (kv : D × D) : Prop := ∃ (a : Str) (m : Int) (c : Str) (i e : Int), kv = (.tup [.str a, .int m], .tup [.str c, .int i, .int e]) ∧ isRow (.tup [.str a, .int m, .str c, .int i, .int e]) = true ∧ e ≤ 100
def PlanKv (kvs : List (D × D)) : Prop := kvs.length ≤ 100 ∧ (kvs.map (·.1)).Nodup ∧ ∀ kv ∈ kvs, IsItem kv
def rowOf : D × D → D
  | (.tup k, .tup v) => .tup (k ++ v)
  | _ => .non
theorem lk_mem {k v : D} : ∀ {kvs : List (D × D)}, (kvs.map (·.1)).Nodup → (k, v) ∈ kvs → lkD kvs k = some v
  | [], _, h => by simp at h
  | (j, u) :: kvs, hn, h => by
    rw [List.map_cons, List.nodup_cons] at hn
    unfold lkD
    rcases List.mem_cons.mp h with e | h
    · cases e
      rw [List.find?_cons_of_pos (by simp)]
      rfl
    · have ne : ¬ j = k := fun e => hn.1 (by rw [e]; exact List.mem_map.mpr ⟨(k, v), h, rfl⟩)
      rw [List.find?_cons_of_neg (by simpa using ne)]
      exact lk_mem hn.2 h
theorem lk_none {k : D} : ∀ {kvs : List (D × D)}, k ∉ kvs.map (·.1) → lkD kvs k = none
  | [], _ => rfl
  | (j, u) :: kvs, h => by
    rw [List.map_cons, List.mem_cons] at h
    unfold lkD
    rw [List.find?_cons_of_neg (by simpa using fun e => h (.inl e.symm))]
    exact lk_none fun m => h (.inr m)
theorem pt_keys (kvs : List (D × D)) (k d : D) : (ptD kvs k d).map (·.1) = if k ∈ kvs.map (·.1) then kvs.map (·.1) else kvs.map (·.1) ++ [k] := by
  unfold ptD
  by_cases h : k ∈ kvs.map (·.1)
  · rw [if_pos h, if_pos (by
      obtain ⟨p, hp, e⟩ := List.mem_map.mp h
      exact List.any_eq_true.mpr ⟨p, hp, decide_eq_true e⟩), List.map_map]
    refine List.map_congr_left fun p _ => ?_
    show (if p.1 = k then (p.1, d) else p).1 = p.1
    split <;> rfl
  · rw [if_neg h, if_neg (fun q => by
      obtain ⟨p, hp, e⟩ := List.any_eq_true.mp q
      exact h (List.mem_map.mpr ⟨p, hp, of_decide_eq_true e⟩)), List.map_append]
    rfl
noncomputable def sn (acc : List (D × D)) (ks : List D) : List (D × D) := ks.foldl (fun acc k => ptD acc k (.bl true)) acc
theorem sn_keys : ∀ (ks : List D) (acc : List (D × D)), (sn acc ks).length ≤ acc.length + ks.length ∧ ((sn acc ks).length = acc.length + ks.length ↔ ks.Nodup ∧ ∀ k ∈ ks, k ∉ acc.map (·.1))
  | [], acc => by simp [sn]
  | k :: ks, acc => by
    have ih := sn_keys ks (ptD acc k (.bl true))
    have hk := pt_keys acc k (.bl true)
    have hlen : (ptD acc k (.bl true)).length = ((ptD acc k (.bl true)).map (·.1)).length := by rw [List.length_map]
    have e : sn acc (k :: ks) = sn (ptD acc k (.bl true)) ks := rfl
    rw [e]
    by_cases h : k ∈ acc.map (·.1)
    · rw [if_pos h] at hk
      rw [hk, List.length_map] at hlen
      rw [hlen] at ih
      refine ⟨by rw [List.length_cons]; omega, fun q => ?_, fun q => absurd h (q.2 k List.mem_cons_self)⟩
      rw [List.length_cons] at q
      omega
    · rw [if_neg h] at hk
      rw [hk, List.length_append, List.length_map, List.length_singleton] at hlen
      rw [hlen, hk] at ih
      refine ⟨by rw [List.length_cons]; omega, ?_⟩
      rw [List.length_cons, show acc.length + (ks.length + 1) = acc.length + 1 + ks.length by omega, ih.2, List.nodup_cons]
      constructor
      · rintro ⟨h1, h2⟩
        refine ⟨⟨fun m => h2 k m (List.mem_append_right _ (List.mem_singleton.mpr rfl)), h1⟩, fun j hj => ?_⟩
        rcases List.mem_cons.mp hj with rfl | hj
        · exact h
        · exact fun m => h2 j hj (List.mem_append_left _ m)
      · rintro ⟨⟨h1, h2⟩, h3⟩
        refine ⟨h2, fun j hj m => ?_⟩
        rcases List.mem_append.mp m with m | m
        · exact h3 j (List.mem_cons_of_mem _ hj) m
        · rw [List.mem_singleton.mp m] at hj
          exact h1 hj
theorem seen_sn (xs : List D) : seen xs = sn [] (xs.map key2) := by
  unfold seen sn
  rw [List.foldl_map]
/-- twice the same key -/
theorem seen_nodup (xs : List D) : decide (((seen xs).length : Int) < (xs.length : Int)) = !decide (xs.map key2).Nodup := by
  have h := sn_keys (xs.map key2) []
  rw [← seen_sn, List.length_map, List.length_nil, Nat.zero_add] at h
  by_cases hn : (xs.map key2).Nodup
  · have e := h.2.mpr ⟨hn, fun _ _ => by simp⟩
    rw [decide_eq_true hn]
    exact decide_eq_false (by omega)
  · have ne : ¬ (seen xs).length = xs.length := fun e => hn (h.2.mp e).1
    rw [decide_eq_false hn]
    exact decide_eq_true (by omega)
def isKey (d : D) : Prop := ∃ (a : Str) (m : Int), d = .tup [.str a, .int m]
theorem eqd_key {x y : D} (hx : isKey x) (hy : isKey y) : eqd x y = decide (x = y) := by
  obtain ⟨a, m, rfl⟩ := hx
  obtain ⟨b, n, rfl⟩ := hy
  have e : eqd (.tup [.str a, .int m]) (.tup [.str b, .int n]) = ((a == b) && ((m == n) && true)) := by
    simp [eqd, py, pyA, PyData.eqv, PyData.eqvAll]
  rw [e]
  by_cases h : a = b
  · subst h
    by_cases h2 : m = n
    · subst h2
      simp
    · have : ¬ (D.tup [.str a, .int m] = D.tup [.str a, .int n]) := fun e => h2 (by cases e; rfl)
      rw [decide_eq_false this]
      simp [h2]
  · have : ¬ (D.tup [.str a, .int m] = D.tup [.str b, .int n]) := fun e => h (by cases e; rfl)
    rw [decide_eq_false this]
    simp [h]
noncomputable def dup (ks : List D) (i : Nat) : Bool := match ks[i]? with
  | some k => (ks.take i).any fun z => eqd z k
  | none => false
theorem dup_no {ks : List D} (hk : ∀ k ∈ ks, isKey k) : (∀ i, i < ks.length → dup ks i = false) ↔ ks.Nodup := by
  have key : ∀ i k, ks[i]? = some k → (dup ks i = true ↔ ∃ j, j < i ∧ ks[j]? = some k) := by
    intro i k hi
    unfold dup
    rw [hi]
    simp only
    rw [List.any_eq_true]
    constructor
    · rintro ⟨z, hz, e⟩
      have hz' := List.mem_of_mem_take hz
      rw [eqd_key (hk z hz') (hk k (List.mem_of_getElem? hi))] at e
      have e := of_decide_eq_true e
      subst e
      obtain ⟨j, hj⟩ := List.getElem?_of_mem hz
      rw [List.getElem?_take] at hj
      split at hj
      · exact ⟨j, by assumption, hj⟩
      · cases hj
    · rintro ⟨j, hj, hjk⟩
      refine ⟨k, List.mem_of_getElem? (i := j) (by rw [List.getElem?_take, if_pos hj]; exact hjk), ?_⟩
      have m := List.mem_of_getElem? hi
      rw [eqd_key (hk k m) (hk k m)]
      exact decide_eq_true rfl
  rw [List.Nodup, List.pairwise_iff_getElem]
  constructor
  · intro h i j hi hj hij e
    have := h j hj
    have t : dup ks j = true := (key j _ (List.getElem?_eq_getElem hj)).mpr ⟨i, hij, by rw [List.getElem?_eq_getElem hi, e]⟩
    rw [this] at t
    cases t
  · intro h i hi
    rw [Bool.eq_false_iff]
    intro t
    obtain ⟨j, hj, e⟩ := (key i _ (List.getElem?_eq_getElem hi)).mp t
    have hjl : j < ks.length := by omega
    rw [List.getElem?_eq_getElem hjl] at e
    exact h j i hjl hi hj (Option.some.inj e)
theorem fit_lst {xs : List D} (h1 : ∀ x ∈ xs, plain x = true ∧ (py x).canLay0 = true ∧ (py x).depth ≤ 60) : fit (.lst xs) = true := fit_tup h1
theorem eqd_nil (xs : List D) : eqd (.lst xs) (.lst []) = xs.isEmpty := by
  cases xs <;> simp [eqd, py, pyA, PyData.eqv, PyData.eqvAll]
noncomputable def joinK (kvs : List (D × D)) (k : D) : D := match k, lkD kvs k with
  | .tup ks, some (.tup v) => .tup (ks ++ v)
  | _, _ => .non
theorem join_row {kvs : List (D × D)} (h : PlanKv kvs) : (kvs.map (·.1)).map (joinK kvs) = kvs.map rowOf := by
  rw [List.map_map]
  refine List.map_congr_left fun kv hkv => ?_
  obtain ⟨a, m, c, i, e, rfl, _⟩ := h.2.2 kv hkv
  show joinK kvs (.tup [.str a, .int m]) = _
  unfold joinK
  rw [lk_mem h.2.1 hkv]
  rfl
def spPlanRows : DL.Spec := fun ds M Φ _ => ∃ t kvs, ds = [.raw (.ref t)] ∧ M = [(t, .dT kvs)] ∧ PlanKv kvs ∧ ∀ rows, rows.Perm (kvs.map rowOf) → Φ (.lst rows) [(t, .dT kvs)]
noncomputable def spAre : DL.Spec := DL.pureS (fun ds => ∃ d, ds = [d] ∧ okRows d) fun ds => .bl (planOf (ds.headD .non)).isSome
theorem keys_sort {ks : List D} (h : ∀ k ∈ ks, isKey k) : ks.all plain = true ∧ PySem.W.AllAlike (ks.map py) ∧ PySem.W.Sortable (ks.map py) ∧ ∀ x ∈ ks, (py x).depth ≤ 32 := by
  refine ⟨List.all_eq_true.mpr fun x hx => ?_, fun d hd e he => ?_, .inl fun d hd => ?_, fun x hx => ?_⟩
  · obtain ⟨a, m, rfl⟩ := h x hx
    rfl
  · obtain ⟨x, hx, rfl⟩ := List.mem_map.mp hd
    obtain ⟨y, hy, rfl⟩ := List.mem_map.mp he
    obtain ⟨a, m, rfl⟩ := h x hx
    obtain ⟨a, m, rfl⟩ := h y hy
    rfl
  · obtain ⟨x, hx, rfl⟩ := List.mem_map.mp hd
    obtain ⟨a, m, rfl⟩ := h x hx
    exact ⟨_, _, rfl⟩
  · obtain ⟨a, m, rfl⟩ := h x hx
    exact (by decide : 1 ≤ 32)
section
variable {P : Program} {w : World} {K : PySem.W.Frag} {mg : Str → Option Value} {base : Heap} {f : Addr} {fd : FuncData}
theorem scPlanRows : FnScope ["plan", "key"] ["plan"] (defScope sPlanRows) := ⟨rfl, rfl, rfl, by decide +kernel, rfl, by decide +kernel, by decide +kernel⟩
theorem ok_planRows (F : Fun K "_law_plan_rows" "_law_plan_rows" sPlanRows f fd) (b : Bn mg) : FnOk P w K mg base (L2.CX P w) 1 f fd ["plan"] (spD K spPlanRows) := by
  refine fn_d F scPlanRows (fun ds M Φ Ψ h => ?_) (fun cdv A outer s H E hr ds M Φ Ψ h => ?_)
  · obtain ⟨t, kvs, rfl, _⟩ := h
    rfl
  · obtain ⟨t, kvs, rfl, rfl, hp, h⟩ := h
    have hu := hr.units
    have nd := scPlanRows.nd
    show JSs _ [some (.raw (.ref t)), none] [(t, .dT kvs)] _ _
    have hkeys : ∀ k ∈ kvs.map (·.1), isKey k := fun k hk => by
      obtain ⟨kv, hkv, rfl⟩ := List.mem_map.mp hk
      obtain ⟨a, m, c, i, e, rfl, _⟩ := hp.2.2 kv hkv
      exact ⟨a, m, rfl⟩
    obtain ⟨q1, q2, q3, q4⟩ := keys_sort hkeys
    refine jss_one (js_ret (je_lc (own := [("key", 1)]) nd blk_ok (ji_list (je_callB b.sorted boot_sorted (ja_cons (je_callT b.list boot_list (ja_cons (je_var 0 rfl (ja_nil (cd_listDT rfl (.inr ⟨0, t, rfl, rfl⟩) (ja_nil (cd_sorted hu q1 q2 q3 q4 ⟨_, rfl, ?_⟩)))))))))))) 
    refine lc_map (joinK kvs) (by rw [sort_length, List.length_map]; have := hp.1; omega) (h _ ?_) fun x hx => ?_
    · have := ((List.mergeSort_perm (kvs.map (·.1)) leD).map (joinK kvs))
      rw [join_row hp] at this
      exact this
    · have hx' := sort_mem.mp hx
      obtain ⟨kv, hkv, rfl⟩ := List.mem_map.mp hx'
      obtain ⟨a, m, c, i, e, rfl, _⟩ := hp.2.2 kv hkv
      refine ⟨[1], [_], by decide, fun s H C cl fp => jc_name 1 nd, fun s H C cl fp => ?_⟩
      show JE _ [some (.raw (.ref t)), some (.tup [.str a, .int m])] _ _ _ _
      refine je_op (je_var 1 rfl (je_dget (u1 hr) (je_var 0 rfl (je_var 1 rfl ⟨_, .inr ⟨kvs, [.inr a, .inl m], .inr ⟨0, t, rfl, rfl⟩, List.cons_ne_nil _ _, rfl, lk_mem hp.2.1 hkv⟩, opd_addT (by show 2 + 3 ≤ 1000000; decide) ⟨?_, rfl⟩⟩))))
      unfold joinK
      rw [lk_mem hp.2.1 hkv]
end
end K27
end

section
set_option Elab.async false
set_option linter.all false
set_option maxRecDepth 100000
set_option maxHeartbeats 4000000
set_option pp.maxSteps 700
set_option hygiene false
open PySem PyProof.Rows L2 DL
namespace K27
open PySem PySem.Spec PyProof.Rows L2 DL
abbrev sMade : Stmt := top 24
theorem use_num {M : Mem} {Φ : D → Mem → Prop} {Ψ : XP} {d : D} (h : okv d) (k : Φ (.bl (num d)) M) : Use spNum [d] M Φ Ψ := .none ⟨rfl, ⟨d, rfl, h⟩, k⟩
theorem key_row {x : D} (h : isRow x = true) : isKey (key2 x) := by
  obtain ⟨a, m, c, k, e, rfl⟩ := isRow_is h
  exact ⟨a, m, rfl⟩
theorem sl_key2 {x : D} (h : isRow x = true) : slD x none (some 2) = some (key2 x) := by
  obtain ⟨a, m, c, k, e, rfl⟩ := isRow_is h
  exact slD_key
theorem small_row {x : D} (h : isRow x = true) : small x := by
  obtain ⟨a, m, c, k, e, rfl⟩ := isRow_is h
  exact True.intro
theorem plan_some {rows : D} {xs : List D} (h : rows = .tup xs ∨ rows = .lst xs) : (planOf rows).isSome = (xs.all isRow && decide (xs.map key2).Nodup) := by
  rw [planOf_of h]
  unfold planOk
  rw [seen_nodup, Bool.not_not]
  cases (xs.all isRow && decide (xs.map key2).Nodup) <;> rfl
theorem all_take {p : D → Bool} {xs : List D} {i : Nat} {x : D} (hx : xs[i]? = some x) (h : (xs.take i).all p = true) : (xs.take (i + 1)).all p = p x := by
  rw [take_next hx, List.all_append, h]
  simp
theorem all_no {p : D → Bool} {xs : List D} {x : D} (hx : x ∈ xs) (h : p x = false) : xs.all p = false := by
  rw [Bool.eq_false_iff]
  intro q
  rw [List.all_eq_true.mp q x hx] at h
  cases h
theorem key_fit {x : D} (h : isRow x = true) : plain (key2 x) = true ∧ (py (key2 x)).canLay0 = true ∧ (py (key2 x)).depth ≤ 60 := by
  obtain ⟨a, m, c, k, e, rfl, ha, _⟩ := isRow_is' h
  refine ⟨rfl, ?_, (by decide : 1 ≤ 60)⟩
  show (PyData.strOk a && (true && true)) = true
  rw [name_ok ha]
  rfl
theorem fit_of {x : D} (h : plain x = true ∧ (py x).canLay0 = true ∧ (py x).depth ≤ 60) : fit x = true := by
  show (plain x && (PyData.canLay0 (py x) && decide ((py x).depth ≤ 64))) = true
  rw [h.1, h.2.1, decide_eq_true (by omega : (py x).depth ≤ 64)]
  rfl
theorem cut_pre {ks : List D} {i : Nat} (h : i ≤ ks.length) : DL.cutD ks none (some ((i : Nat) : Int)) = ks.take i := by
  unfold DL.cutD
  rw [HT.sIx_none, HT.sIx_nat, Nat.min_eq_left h]
  simp
theorem dup_empty {ks : List D} (hk : ∀ k ∈ ks, isKey k) {n : Nat} (hn : n = ks.length) : ((rngD 0 n).filter fun x => match x with | .int i => dup ks i.toNat | _ => false).isEmpty = decide ks.Nodup := by
  subst hn
  rw [Bool.eq_iff_iff, decide_eq_true_iff, List.isEmpty_iff, List.filter_eq_nil_iff, ← dup_no hk]
  constructor
  · intro h i hi
    have := h (.int (0 + (i : Nat))) (List.mem_map.mpr ⟨i, List.mem_range.mpr hi, rfl⟩)
    simp only [Int.zero_add, Int.toNat_natCast] at this
    rwa [Bool.not_eq_true] at this
  · intro h x hx
    obtain ⟨i, hi, rfl⟩ := List.mem_map.mp hx
    rw [List.mem_range] at hi
    simp only [Int.zero_add, Int.toNat_natCast]
    rw [h i hi]
    decide
section
variable {P : Program} {w : World} {K : PySem.W.Frag} {mg : Str → Option Value} {base : Heap} {f : Addr} {fd : FuncData}
section
local macro_rules | `(tactic| walk_at "jgo") => `(tactic| repeat' (first | ((with_reducible show JE _ _ _ _ _ _); first | ((with_reducible show JE _ _ _ (.Constant _ _ _) _ _); first | with_reducible refine je_int ?_ | with_reducible refine je_str ?_ | with_reducible refine je_bl ?_ | with_reducible refine je_non ?_) | ((with_reducible show JE _ _ _ (.Name _ _) _ _); first | ((with_reducible show JE _ _ _ (.Name (Str.ofString "rows") _) _ _); refine je_var 0 rfl ?_) | ((with_reducible show JE _ _ _ (.Name (Str.ofString "row") _) _ _); refine je_var 1 rfl ?_) | ((with_reducible show JE _ _ _ (.Name (Str.ofString "keys") _) _ _); refine je_var 2 rfl ?_) | ((with_reducible show JE _ _ _ (.Name (Str.ofString "at") _) _ _); refine je_var 3 rfl ?_)) | ((with_reducible show JE _ _ _ (.Call (.Name _ _) _ _ _) _ _); first | ((with_reducible show JE _ _ _ (.Call (.Name (Str.ofString "isinstance") _) _ _ _) _ _); first | ((with_reducible show JE _ _ _ (.Call _ [_, .Name (Str.ofString "str") _] _ _) _ _); refine je_isi b.isinstance b.str boot_str (by decide) ?_) | ((with_reducible show JE _ _ _ (.Call _ [_, .Name (Str.ofString "int") _] _ _) _ _); refine je_isi b.isinstance b.int boot_int (by decide) ?_) | ((with_reducible show JE _ _ _ (.Call _ [_, .Name (Str.ofString "bool") _] _ _) _ _); refine je_isi b.isinstance b.bool boot_bool (by decide) ?_) | ((with_reducible show JE _ _ _ (.Call _ [_, .Name (Str.ofString "tuple") _] _ _) _ _); refine je_isi b.isinstance b.tuple boot_tuple (by decide) ?_) | ((with_reducible show JE _ _ _ (.Call _ [_, .Name (Str.ofString "list") _] _ _) _ _); refine je_isi b.isinstance b.list boot_list (by decide) ?_) | ((with_reducible show JE _ _ _ (.Call _ [_, .Name (Str.ofString "dict") _] _ _) _ _); refine je_isi b.isinstance b.dict boot_dict (by decide) ?_) | ((with_reducible show JE _ _ _ (.Call _ [_, .Tuple [.Name (Str.ofString "tuple") _, .Name (Str.ofString "list") _] _ _] _ _) _ _); refine je_isiP b.isinstance b.tuple boot_tuple b.list boot_list (by decide) (by decide) ?_)) | ((with_reducible show JE _ _ _ (.Call (.Name (Str.ofString "len") _) _ _ _) _ _); refine je_len b.len ?_) | ((with_reducible show JE _ _ _ (.Call (.Name (Str.ofString "all") _) _ _ _) _ _); refine je_callB b.all boot_all ?_) | ((with_reducible show JE _ _ _ (.Call (.Name (Str.ofString "any") _) _ _ _) _ _); refine je_callB b.any boot_any ?_) | ((with_reducible show JE _ _ _ (.Call (.Name (Str.ofString "sorted") _) _ _ _) _ _); refine je_callB b.sorted boot_sorted ?_) | ((with_reducible show JE _ _ _ (.Call (.Name (Str.ofString "min") _) _ _ _) _ _); refine je_callB b.min boot_min ?_) | ((with_reducible show JE _ _ _ (.Call (.Name (Str.ofString "list") _) _ _ _) _ _); refine je_callT b.list boot_list ?_) | ((with_reducible show JE _ _ _ (.Call (.Name (Str.ofString "tuple") _) _ _ _) _ _); refine je_callT b.tuple boot_tuple ?_) | ((with_reducible show JE _ _ _ (.Call (.Name (Str.ofString "str") _) _ _ _) _ _); refine je_callT b.str boot_str ?_) | ((with_reducible show JE _ _ _ (.Call (.Name (Str.ofString "int") _) _ _ _) _ _); refine je_callT b.int boot_int ?_) | ((with_reducible show JE _ _ _ (.Call (.Name (Str.ofString "_law_is_name") _) _ _ _) _ _); refine je_call gN (hr.mono (by decide)) ?_) | ((with_reducible show JE _ _ _ (.Call (.Name (Str.ofString "_law_is_number") _) _ _ _) _ _); refine je_call gM (hr.mono (by decide)) ?_)) | with_reducible refine je_not ?_ | with_reducible refine je_one ?_ | with_reducible refine je_and ?_ | with_reducible refine je_or ?_ | ((with_reducible show JE _ _ _ (.Compare _ [_, _] _ _) _ _); refine je_chain ?_) | ((with_reducible show JE _ _ _ (.Compare _ [_] _ _) _ _); refine je_cmp ?_) | with_reducible refine je_op ?_ | with_reducible refine je_tup ?_ | with_reducible refine je_ifExp ?_) | ((with_reducible show Exists _); refine ⟨_, rfl, ?_⟩) | ((with_reducible show ite _ _ _); first | refine ite_t rfl ?_ | refine ite_f rfl ?_) | ((with_reducible show OpD _ _ _ _ _ _); first | with_reducible refine opd_addI ?_ | with_reducible refine opd_subI ?_ | with_reducible refine opd_ltI ?_ | with_reducible refine opd_leI ?_ | with_reducible refine opd_gtI ?_ | with_reducible refine opd_geI ?_ | with_reducible refine opd_eqI ?_ | with_reducible refine opd_neI ?_ | with_reducible refine opd_eqS ?_ | with_reducible refine opd_neS ?_ | with_reducible refine opd_eqB ?_ | with_reducible refine opd_neB ?_) | ((with_reducible show JA _ _ _ _ _ _); first | with_reducible refine ja_nil ?_ | refine ja_cons ?_) | ((with_reducible show JT _ _ _ _ _ _); first | with_reducible refine jt_not ?_ | ((with_reducible show JT _ _ _ (.BoolOp .Or _ _) _ _); with_reducible refine jt_w (jw_or ?_)) | ((with_reducible show JT _ _ _ (.BoolOp .And _ _) _ _); with_reducible refine jt_w (jw_and ?_)) | ((with_reducible show JT _ _ _ (.Compare _ [_, _] _ _) _ _); refine jt_chain ?_) | ((with_reducible show JT _ _ _ (.Compare _ [_] _ _) _ _); refine jt_cmp ?_) | ((with_reducible show JT _ _ _ (.Call _ _ _ _) _ _); refine jt_val ?_)) | ((with_reducible show JW _ _ _ _ _ _); first | with_reducible refine jw_or1 ?_ | with_reducible refine jw_and1 ?_ | with_reducible refine jw_or ?_ | with_reducible refine jw_and ?_) | ((with_reducible show JSs _ _ _ _ _); first | with_reducible refine jss_one ?_ | with_reducible refine jss_cons ?_ | with_reducible refine jss_nil ?_) | ((with_reducible show JS _ _ _ _ _); first | with_reducible refine js_if ?_ | with_reducible refine js_ret ?_ | with_reducible refine js_retN ?_ | ((with_reducible show JS _ _ _ (.Expr _ _) _); refine js_expr ?_) | ((with_reducible show JS _ _ _ (.Assign [.Name _ _] _ _) _); first | ((with_reducible show JS _ _ _ (.Assign [.Name (Str.ofString "rows") _] _ _) _); refine js_set 0 ?_ nd) | ((with_reducible show JS _ _ _ (.Assign [.Name (Str.ofString "row") _] _ _) _); refine js_set 1 ?_ nd) | ((with_reducible show JS _ _ _ (.Assign [.Name (Str.ofString "keys") _] _ _) _); refine js_set 2 ?_ nd) | ((with_reducible show JS _ _ _ (.Assign [.Name (Str.ofString "at") _] _ _) _); refine js_set 3 ?_ nd))) | ((with_reducible show JG _ _ _ (.Name _ _) _ _); first | ((with_reducible show JG _ _ _ (.Name (Str.ofString "rows") _) _ _); refine jg_name 0 ?_ nd) | ((with_reducible show JG _ _ _ (.Name (Str.ofString "row") _) _ _); refine jg_name 1 ?_ nd) | ((with_reducible show JG _ _ _ (.Name (Str.ofString "keys") _) _ _); refine jg_name 2 ?_ nd) | ((with_reducible show JG _ _ _ (.Name (Str.ofString "at") _) _ _); refine jg_name 3 ?_ nd))))
theorem scAre : FnScope ["rows", "row", "keys", "at"] ["rows"] (defScope sAreRows) := ⟨rfl, rfl, rfl, by decide +kernel, rfl, by decide +kernel, by decide +kernel⟩
theorem ok_are (F : Fun K "_law_are_rows" "_law_are_rows" sAreRows f fd) (b : Bn mg) (gN : GFn P w K mg base 1 "_law_is_name" [] spName) (gM : GFn P w K mg base 1 "_law_is_number" [] spNum) : FnOk P w K mg base (L2.CX P w) 2 f fd ["rows"] (spD K spAre) := by
  refine fn_d F scAre (fun ds M Φ Ψ h => ?_) (fun cdv A outer s H E hr ds M Φ Ψ h => ?_)
  · obtain ⟨_, ⟨d, rfl, _⟩, _⟩ := h
    rfl
  · obtain ⟨rfl, ⟨rows, rfl, ⟨n, hn⟩, hx⟩, h⟩ := h
    replace h : Φ (.bl (planOf rows).isSome) [] := h
    have hu := hr.units
    have nd := scAre.nd
    show JSs _ [some rows, none, none, none] [] _ _
    refine jss_cons (js_if (jt_not (jt_val (je_isiP b.isinstance b.tuple boot_tuple b.list boot_list (by decide) (by decide) (je_var 0 rfl ⟨n, hn, _, rfl, ?_⟩)))))
    by_cases hsq : (isT "tuple" rows || isT "list" rows) = true
    · refine ite_f (by rw [hsq]; rfl) (jss_nil ?_)
      obtain ⟨xs, hxs⟩ : ∃ xs, rows = .tup xs ∨ rows = .lst xs := by
        cases rows with
        | tup xs => exact ⟨xs, .inl rfl⟩
        | lst xs => exact ⟨xs, .inr rfl⟩
        | _ => exact absurd (show false = true from hsq) Bool.false_ne_true
      obtain ⟨hlen, hrow⟩ := hx xs hxs
      rw [plan_some hxs] at h
      -- every row
      refine jss_cons (js_for (passes_of rfl) (ji_seqv 0 rfl hxs ?_))
      refine ⟨fun i Γ2 M2 => ∃ rv, Γ2 = [some rows, rv, none, none] ∧ M2 = [] ∧ (xs.take i).all isRow = true, ⟨none, rfl, rfl, rfl⟩, ?_, ?_⟩
      · rintro i x Γ2 M2 hi ⟨rv, rfl, rfl, hall⟩
        have hxm := List.mem_of_getElem? hi
        obtain ⟨⟨⟨t, ht⟩, hs⟩, hel⟩ := hrow x hxm
        refine jg_name 1 ?_ nd
        show JSs _ [some rows, some x, none, none] [] _ _
        -- no row: False is handed back
        have bad : isRow x = false → Φ (.bl false) [] := fun e => by
          rw [all_no hxm e] at h
          exact h
        refine jss_cons ?_
        cases x with
        | ins => cases ht
        | raw => cases ht
        | exc => cases ht
        | tup ys =>
          walk_at "jgo"
          refine ⟨_, .inr (.inl ⟨ys, rfl, rfl⟩), ?_⟩
          walk_at "jgo"
          by_cases hl : ys.length = 5
          · obtain ⟨a, b', c, d, e, rfl⟩ : ∃ a b c d e, ys = [a, b, c, d, e] := match ys, hl with | [a, b, c, d, e], _ => ⟨_, _, _, _, _, rfl⟩
            have ha := hel _ rfl a (by simp)
            have hb := hel _ rfl b' (by simp)
            have hc := hel _ rfl c (by simp)
            have hd := hel _ rfl d (by simp)
            have he := hel _ rfl e (by simp)
            have hr' : isRow (.tup [a, b', c, d, e]) = (isName a && isName c && (num b' && (num d && num e))) := rfl
            rw [hr'] at bad
            walk_at "jgo"
            refine je_ixT ?_
            walk_at "jgo"
            refine ⟨_, _, a, rfl, rfl, rfl, ja_nil (use_name ha ?_)⟩
            walk_at "jgo"
            refine ite_2 (fun c1 => ite_t rfl ?_) fun c1 => ?_
            · walk_at "jgo"
              rw [Bool.not_eq_true'] at c1
              exact bad (by rw [c1]; rfl)
            · rw [Bool.not_eq_false'] at c1
              walk_at "jgo"
              refine je_ixT ?_
              walk_at "jgo"
              refine ⟨_, _, c, rfl, rfl, rfl, ja_nil (use_name hc ?_)⟩
              walk_at "jgo"
              refine ite_2 (fun c2 => ?_) fun c2 => ?_
              · walk_at "jgo"
                rw [Bool.not_eq_true'] at c2
                exact bad (by rw [c1, c2]; rfl)
              · rw [Bool.not_eq_false'] at c2
                walk_at "jgo"
                refine je_lc (own := [("at", 3)]) nd blk_ok (ji_list (je_lst ?_))
                walk_at "jgo"
                refine ⟨by decide, [.int 1, .int 3, .int 4], rfl, ?_⟩
                refine lc_map (fun x => match x with | .int 1 => .bl (num b') | .int 3 => .bl (num d) | _ => .bl (num e)) (by decide) ?_ fun x hx => ?_
                · refine ja_nil (cd_all (bs := [num b', num d, num e]) rfl ⟨_, rfl, ?_⟩)
                  have q : ([num b', num d, num e].all id) = (num b' && (num d && num e)) := by simp
                  rw [q]
                  refine ite_2 (fun c3 => ?_) fun c3 => ?_
                  · rw [Bool.not_eq_true'] at c3
                    walk_at "jgo"
                    exact bad (by rw [c1, c2, c3]; rfl)
                  · rw [Bool.not_eq_false'] at c3
                    refine jss_nil ⟨_, rfl, rfl, ?_⟩
                    rw [all_take hi hall, hr', c1, c2, c3]
                    rfl
                · refine ⟨[3], [x], by decide, fun s H C cl fp => jc_name 3 nd, fun s H C cl fp => ?_⟩
                  show JE _ [some rows, some (.tup [a, b', c, d, e]), none, some x] _ _ _ _
                  walk_at "jgo"
                  refine je_ixT ?_
                  walk_at "jgo"
                  have hx3 : x = .int 1 ∨ x = .int 3 ∨ x = .int 4 := by simpa using hx
                  rcases hx3 with rfl | rfl | rfl
                  · exact ⟨_, _, b', rfl, rfl, rfl, ja_nil (use_num hb ⟨rfl, rfl⟩)⟩
                  · exact ⟨_, _, d, rfl, rfl, rfl, ja_nil (use_num hd ⟨rfl, rfl⟩)⟩
                  · exact ⟨_, _, e, rfl, rfl, rfl, ja_nil (use_num he ⟨rfl, rfl⟩)⟩
          · refine ite_t (by simpa using fun z : (ys.length : Int) = 5 => hl (by omega)) (ite_t rfl ?_)
            walk_at "jgo"
            refine bad ?_
            unfold isRow
            split
            · rename_i q
              cases q
              exact absurd rfl hl
            · rfl
        | _ =>
          walk_at "jgo"
          exact bad rfl
      · rintro Γ2 M2 ⟨rv, rfl, rfl, hall⟩
        rw [List.take_length] at hall
        rw [hall, Bool.true_and] at h
        have hR : ∀ x ∈ xs, isRow x = true := List.all_eq_true.mp hall
        -- keys = [row[:2] for row in rows]
        refine jss_cons (js_set 2 (je_lc (own := [("row", 1)]) nd blk_ok (ji_seqv 0 rfl hxs ?_)) nd)
        refine lc_map key2 (by omega) ?_ fun x hx => ?_
        · show JSs _ [some rows, rv, some (.lst (xs.map key2)), none] [] _ _
          have hK : ∀ k ∈ xs.map key2, isKey k := fun k hk => by
            obtain ⟨x, hx, rfl⟩ := List.mem_map.mp hk
            exact key_row (hR x hx)
          refine jss_one (js_ret (je_cmp (je_lc (own := [("at", 3)]) nd blk_ok (ji_range1 b.range (je_len b.len (je_var 2 rfl ⟨_, .inl ⟨_, rfl, rfl⟩, _, rfl, by omega, by rw [List.length_map]; omega, ?_⟩))))))
          refine lc_fil (fun x => match x with | .int i => dup (xs.map key2) i.toNat | _ => false) id (by rw [rngD_length, List.length_map]; omega) ?_ fun x hx => ?_
          · refine je_lst (ja_nil ⟨by decide, ?_⟩)
            rw [List.map_id]
            refine opd_eqD hu (fit_lst fun x hx => ?_) rfl ?_
            · have := List.mem_filter.mp hx
              obtain ⟨i, hi, e⟩ := List.mem_map.mp this.1
              rw [← e]
              exact ⟨rfl, rfl, Nat.zero_le _⟩
            · rw [eqd_nil, dup_empty hK (by omega)]
              exact h
          · obtain ⟨i, hi, rfl⟩ := List.mem_map.mp hx
            rw [List.mem_range] at hi
            have hi' : i < (xs.map key2).length := by omega
            have e0 : (0 + ((i : Nat) : Int)) = ((i : Nat) : Int) := by omega
            rw [e0]
            obtain ⟨k, hk⟩ : ∃ k, (xs.map key2)[i]? = some k := ⟨_, List.getElem?_eq_getElem hi'⟩
            refine ⟨[3], [_], by decide, fun s H C cl fp => jc_name 3 nd, fun s H C cl fp => ?_⟩
            refine jt_cmp (je_ixL (je_var 2 rfl (je_var 3 rfl ⟨_, _, k, rfl, rfl, atI_nat hk, je_slice (je_var 2 rfl (jo_none (jo_some (je_var 3 rfl ⟨_, rfl, True.intro, _, rfl, ?_⟩))))⟩)))
            rw [cut_pre (by omega)]
            have fk : ∀ k ∈ xs.map key2, plain k = true ∧ (py k).canLay0 = true ∧ (py k).depth ≤ 60 := fun k hk => by
              obtain ⟨x, hx, rfl⟩ := List.mem_map.mp hk
              exact key_fit (hR x hx)
            refine opd_inD (u65 hr) (fit_of (fk k (List.mem_of_getElem? hk))) (fit_lst fun x hx => fk x (List.mem_of_mem_take hx)) ⟨_, rfl, ?_, rfl, fun s H C cl fp => je_var 3 rfl ⟨rfl, rfl⟩⟩
            show _ = dup (xs.map key2) (((i : Nat) : Int)).toNat
            unfold dup
            rw [Int.toNat_natCast, hk]
        · refine ⟨[1], [x], by decide, fun s H C cl fp => jc_name 1 nd, fun s H C cl fp => ?_⟩
          show JE _ [some rows, some x, none, none] _ _ _ _
          exact je_slice (je_var 1 rfl (jo_none (jo_some (je_int ⟨_, rfl, small_row (hR x hx), _, sl_key2 (hR x hx), rfl, rfl⟩))))
    · rw [Bool.not_eq_true] at hsq
      refine ite_t (by rw [hsq]; rfl) (jss_one (js_ret (je_bl ?_)))
      have e : planOf rows = none := by
        cases rows with
        | tup xs => exact absurd (show true = false from hsq) (by decide)
        | lst xs => exact absurd (show true = false from hsq) (by decide)
        | _ => rfl
      rw [e] at h
      exact h
end
end
end K27
end

section
set_option Elab.async false
set_option linter.all false
set_option maxRecDepth 100000
set_option maxHeartbeats 4000000
set_option pp.maxSteps 700
set_option hygiene false
open PySem PyProof.Rows L2 DL
namespace K27
open PySem PySem.Spec PyProof.Rows L2 DL
noncomputable def made (C : Addr) (rows : D) : D := match planOf rows with
  | some xs => .lst [.str "fine", .ins C (planIns C xs)]
  | none => .lst [.str "row", .str "plan", rows]
noncomputable def spMade (C : Addr) : DL.Spec := fun ds M Φ _ => ∃ rows, ds = [rows] ∧ M = [] ∧ okRows rows ∧ Φ (made C rows) []
section
variable {P : Program} {w : World} {K : PySem.W.Frag} {mg : Str → Option Value} {base : Heap} {f : Addr} {fd : FuncData}
theorem scMade : FnScope ["rows", "found", "error"] ["rows"] (defScope sMade) := ⟨rfl, rfl, rfl, by decide +kernel, rfl, by decide +kernel, by decide +kernel⟩
theorem ok_made {C CB : Addr} (F : Fun K "_law_made" "_law_made" sMade f fd) (gP : GMk P w K mg base 5 "Plan" C [] (spInit C CB)) (gB : GXc P w K mg base 1 "BadRow" CB ["what", "row"]) (te : PySem.W.exmOne K (.ref CB) (.ref CB) = some true) : FnOk P w K mg base (L2.CX P w) 7 f fd ["rows"] (spD K (spMade C)) := by
  refine fn_d F scMade (fun ds M Φ Ψ h => ?_) (fun cdv A outer s H E hr ds M Φ Ψ h => ?_)
  · obtain ⟨rows, rfl, _⟩ := h
    rfl
  · obtain ⟨rows, rfl, rfl, ho, h⟩ := h
    have nd := scMade.nd
    show JSs _ [some rows, none, none] [] _ _
    refine jss_cut (fun Γ1 M1 => ∃ o, Γ1 = [some rows, some (made C rows), o] ∧ M1 = []) (js_try_as 2 (c := .ref CB) nd ⟨rfl, by decide, Or.inl gB.hm⟩ fun pn xe po => ?_) ?_
    · refine jss_one (js_set 1 (je_lst (ja_cons (je_str (ja_cons (je_make gP hr (ja_cons (je_var 0 rfl (ja_nil fun t => ⟨t, rows, rfl, rfl, ho, fun xs hx => ⟨rfl, _, rfl, ?_⟩, fun hn => ?_⟩)))))))) nd)
      · refine ja_nil ⟨by show 2 ≤ 1000000; decide, none, ?_, rfl⟩
        unfold made
        rw [hx]
        rfl
      · refine ⟨true, te, fun _ => ⟨List.cons_ne_nil _ _, fun a dd oe pn' hz hf => ?_⟩, fun e => Bool.noConfusion e⟩
        have w1 : ("what" : Str) ∈ (["what", "row"] : List Str) := List.mem_cons_self
        have w2 : ("row" : Str) ∈ (["what", "row"] : List Str) := List.mem_cons_of_mem _ List.mem_cons_self
        refine jss_one (js_set 1 (je_lst (ja_cons (je_str (ja_cons (je_xf gB.rd (gB.no _ w1) hz hf (je_var 2 rfl ⟨_, .str "plan", rfl, rfl, ?_⟩)))))) nd)
        refine ja_cons (je_xf gB.rd (gB.no _ w2) hz hf (je_var 2 rfl ⟨_, rows, rfl, rfl, ja_nil ⟨by show 3 ≤ 1000000; decide, ?_⟩⟩))
        refine ⟨none, ?_, rfl⟩
        unfold made
        rw [hn]
        rfl
    · rintro Γ1 M1 ⟨o, rfl, rfl⟩
      exact jss_one (js_ret (je_var 1 rfl h))
end
end K27
end

section
set_option Elab.async false
set_option linter.all false
set_option maxRecDepth 100000
set_option maxHeartbeats 4000000
set_option pp.maxSteps 700
set_option hygiene false
open PySem PyProof.Rows L2 DL
namespace K27
open PySem PySem.Spec PyProof.Rows L2 DL
abbrev sBent : Stmt := top 25
theorem je_neg {X : Cx} {Γ : Sl} {M : Mem} {Φ : D → Mem → Prop} {Ψ : XP} {e : Expr} {pos : Pos} (h : JE X Γ M e (fun x M1 => ∃ i, x = .int i ∧ Φ (.int (-i)) M1) Ψ) : JE X Γ M (.UnaryOp .USub e pos) Φ Ψ := fun B Hn H σ S A Q q => by
  refine run_pe (pe_un un_neg pe_run) ?_
  refine h B Hn H σ S A _ fun v d M1 Hn1 H1 p S1 e1 r1 => ?_
  obtain ⟨i, rfl, p⟩ := p
  cases r1
  exact ⟨i, rfl, q _ _ _ _ _ p S1 e1 (.int _)⟩
/-- neither list nor tuple, nor long -/
def flat (d : D) : Prop := okv d ∧ lev 0 d
theorem flat_non : flat .non := ⟨⟨⟨_, rfl⟩, fun _ e => by cases e⟩, True.intro⟩
theorem flat_bl {b : Bool} : flat (.bl b) := ⟨⟨⟨_, rfl⟩, fun _ e => by cases e⟩, True.intro⟩
theorem flat_int {i : Int} : flat (.int i) := ⟨⟨⟨_, rfl⟩, fun _ e => by cases e⟩, True.intro⟩
theorem flat_str {z : Str} (h1 : z.length ≤ 1000000) (h2 : PyData.strOk z = true) : flat (.str z) := ⟨⟨⟨_, rfl⟩, fun _ e => by cases e; exact h1⟩, h2⟩
theorem flat_name {d : D} (h : isName d = true) : flat d := by
  obtain ⟨a, rfl⟩ := isName_str h
  have h' : (decide (1 ≤ (a.length : Int)) && decide ((a.length : Int) ≤ 12) && Txt.isascii a && Txt.isalnum a && Txt.islower a && Txt.isalpha ⟨#[a.cps.toList.headD 0]⟩) = true := h
  simp only [Bool.and_eq_true] at h'
  have := of_decide_eq_true h'.1.1.1.1.2
  exact flat_str (by omega) (name_ok h)
def flatRow (n : Nat) (d : D) : Prop := ∃ ys, d = .tup ys ∧ ys.length = n ∧ ∀ y ∈ ys, flat y
def bentRow (d : D) : Prop := okr d ∧ lev 2 d
theorem flat_bent {d : D} (h : flat d) : bentRow d := by
  refine ⟨⟨h.1, fun xs e => ?_⟩, ?_⟩
  · subst e
    exact h.2.elim
  · have := h.2
    cases d <;> first | exact this | exact this.elim
theorem lev_up {n : Nat} {d : D} (h : lev 0 d) : lev n d := by
  cases d <;> cases n <;> first | exact h | exact h.elim
theorem tup_bent {ys : List D} (hl : ys.length ≤ 100000) (h : ∀ y ∈ ys, flat y) : bentRow (.tup ys) :=
  ⟨⟨⟨⟨_, rfl⟩, fun _ e => by cases e⟩, fun xs e y hy => by cases e; exact (h y hy).1⟩, hl, fun y hy => lev_up (h y hy).2⟩
theorem lst_bent {ys : List D} (hl : ys.length ≤ 100000) (h : ∀ y ∈ ys, flat y) : bentRow (.lst ys) :=
  ⟨⟨⟨⟨_, rfl⟩, fun _ e => by cases e⟩, fun xs e => by cases e⟩, hl, fun y hy => lev_up (h y hy).2⟩
theorem row_flat {d : D} (h : isRow d = true) : flatRow 5 d := by
  obtain ⟨a, m, c, k, e, rfl, ha, hc, _⟩ := isRow_is' h
  refine ⟨_, rfl, rfl, fun y hy => ?_⟩
  simp only [List.mem_cons, List.not_mem_nil, or_false] at hy
  rcases hy with rfl | rfl | rfl | rfl | rfl
  · exact flat_name ha
  · exact flat_int
  · exact flat_name hc
  · exact flat_int
  · exact flat_int
theorem flatRow.bent {n : Nat} {d : D} (h : flatRow n d) (hn : n ≤ 100000) : bentRow d := by
  obtain ⟨ys, rfl, hl, hy⟩ := h
  exact tup_bent (by omega) hy
theorem cut_mem {xs : List D} {lo hi : Option Int} {x : D} (h : x ∈ DL.cutD xs lo hi) : x ∈ xs := List.mem_of_mem_drop (List.mem_of_mem_take h)
theorem cut_le {xs : List D} {lo hi : Option Int} : (DL.cutD xs lo hi).length ≤ xs.length := by
  unfold DL.cutD
  rw [List.length_take, List.length_drop]
  omega
theorem lev_bent {rows : List D} (hl : rows.length ≤ 1000) (h : ∀ r ∈ rows, bentRow r) : okRows (.lst rows) ∧ lev 3 (.lst rows) :=
  ⟨⟨⟨_, rfl⟩, fun xs e => by
    rcases e with e | e
    · cases e
    · cases e
      exact ⟨hl, fun x hx => (h x hx).1⟩⟩, by omega, fun x hx => (h x hx).2⟩
theorem flat_rows {d : D} (h : flat d) : okRows d ∧ lev 3 d := by
  refine ⟨⟨h.1.1, fun xs e => ?_⟩, lev_up h.2⟩
  rcases e with rfl | rfl
  · exact h.2.elim
  · exact h.2.elim
def rowD : List D := [.str "ab", .int 77, .str "cd", .int 1, .int 0]
theorem row_mid {odd : D} (spot : Int) (h0 : 0 ≤ spot) (h1 : spot < 5) (ho : flat odd) : flatRow 5 (.tup ((DL.cutD rowD none (some spot) ++ [odd]) ++ DL.cutD rowD (some (spot + 1)) none)) := by
  refine ⟨_, rfl, ?_, fun y hy => ?_⟩
  · have h : spot = 0 ∨ spot = 1 ∨ spot = 2 ∨ spot = 3 ∨ spot = 4 := by omega
    rcases h with rfl | rfl | rfl | rfl | rfl <;> rfl
  · have hm : y ∈ rowD ∨ y = odd := by
      rcases List.mem_append.mp hy with hy | hy
      · rcases List.mem_append.mp hy with hy | hy
        · exact .inl (cut_mem hy)
        · exact .inr (List.mem_singleton.mp hy)
      · exact .inl (cut_mem hy)
    rcases hm with hm | rfl
    · simp only [rowD, List.mem_cons, List.not_mem_nil, or_false] at hm
      rcases hm with rfl | rfl | rfl | rfl | rfl
      · exact flat_str (by decide +kernel) (by decide +kernel)
      · exact flat_int
      · exact flat_str (by decide +kernel) (by decide +kernel)
      · exact flat_int
      · exact flat_int
    · exact ho
def spBent : DL.Spec := fun ds M Φ _ => ∃ p rows n c, ds = [.raw (.ref p), .lst rows] ∧ rows.length ≤ 100 ∧ (∀ r ∈ rows, isRow r = true) ∧ M = [(p, c)] ∧ PenIs (n + 6) c ∧ ∀ d c', okRows d → lev 3 d → PenIs n c' → Φ d [(p, c')]
section
variable {P : Program} {w : World} {K : PySem.W.Frag} {mg : Str → Option Value} {base : Heap} {f : Addr} {fd : FuncData}
local macro_rules | `(tactic| walk_at "jgo") => `(tactic| repeat' (first | ((with_reducible show JE _ _ _ _ _ _); first | ((with_reducible show JE _ _ _ (.Constant _ _ _) _ _); first | with_reducible refine je_int ?_ | with_reducible refine je_str ?_ | with_reducible refine je_bl ?_ | with_reducible refine je_non ?_) | ((with_reducible show JE _ _ _ (.Name _ _) _ _); first | ((with_reducible show JE _ _ _ (.Name (Str.ofString "pen") _) _ _); refine je_var 0 rfl ?_) | ((with_reducible show JE _ _ _ (.Name (Str.ofString "rows") _) _ _); refine je_var 1 rfl ?_) | ((with_reducible show JE _ _ _ (.Name (Str.ofString "at") _) _ _); refine je_var 2 rfl ?_) | ((with_reducible show JE _ _ _ (.Name (Str.ofString "spot") _) _ _); refine je_var 3 rfl ?_) | ((with_reducible show JE _ _ _ (.Name (Str.ofString "odd") _) _ _); refine je_var 4 rfl ?_) | ((with_reducible show JE _ _ _ (.Name (Str.ofString "row") _) _ _); refine je_var 5 rfl ?_) | ((with_reducible show JE _ _ _ (.Name (Str.ofString "way") _) _ _); refine je_var 6 rfl ?_)) | ((with_reducible show JE _ _ _ (.Call (.Name _ _) _ _ _) _ _); first | ((with_reducible show JE _ _ _ (.Call (.Name (Str.ofString "isinstance") _) _ _ _) _ _); first | ((with_reducible show JE _ _ _ (.Call _ [_, .Name (Str.ofString "str") _] _ _) _ _); refine je_isi b.isinstance b.str boot_str (by decide) ?_) | ((with_reducible show JE _ _ _ (.Call _ [_, .Name (Str.ofString "int") _] _ _) _ _); refine je_isi b.isinstance b.int boot_int (by decide) ?_) | ((with_reducible show JE _ _ _ (.Call _ [_, .Name (Str.ofString "bool") _] _ _) _ _); refine je_isi b.isinstance b.bool boot_bool (by decide) ?_) | ((with_reducible show JE _ _ _ (.Call _ [_, .Name (Str.ofString "tuple") _] _ _) _ _); refine je_isi b.isinstance b.tuple boot_tuple (by decide) ?_) | ((with_reducible show JE _ _ _ (.Call _ [_, .Name (Str.ofString "list") _] _ _) _ _); refine je_isi b.isinstance b.list boot_list (by decide) ?_) | ((with_reducible show JE _ _ _ (.Call _ [_, .Name (Str.ofString "dict") _] _ _) _ _); refine je_isi b.isinstance b.dict boot_dict (by decide) ?_) | ((with_reducible show JE _ _ _ (.Call _ [_, .Tuple [.Name (Str.ofString "tuple") _, .Name (Str.ofString "list") _] _ _] _ _) _ _); refine je_isiP b.isinstance b.tuple boot_tuple b.list boot_list (by decide) (by decide) ?_)) | ((with_reducible show JE _ _ _ (.Call (.Name (Str.ofString "len") _) _ _ _) _ _); refine je_len b.len ?_) | ((with_reducible show JE _ _ _ (.Call (.Name (Str.ofString "all") _) _ _ _) _ _); refine je_callB b.all boot_all ?_) | ((with_reducible show JE _ _ _ (.Call (.Name (Str.ofString "any") _) _ _ _) _ _); refine je_callB b.any boot_any ?_) | ((with_reducible show JE _ _ _ (.Call (.Name (Str.ofString "sorted") _) _ _ _) _ _); refine je_callB b.sorted boot_sorted ?_) | ((with_reducible show JE _ _ _ (.Call (.Name (Str.ofString "min") _) _ _ _) _ _); refine je_callB b.min boot_min ?_) | ((with_reducible show JE _ _ _ (.Call (.Name (Str.ofString "list") _) _ _ _) _ _); refine je_callT b.list boot_list ?_) | ((with_reducible show JE _ _ _ (.Call (.Name (Str.ofString "tuple") _) _ _ _) _ _); refine je_callT b.tuple boot_tuple ?_) | ((with_reducible show JE _ _ _ (.Call (.Name (Str.ofString "str") _) _ _ _) _ _); refine je_callT b.str boot_str ?_) | ((with_reducible show JE _ _ _ (.Call (.Name (Str.ofString "int") _) _ _ _) _ _); refine je_callT b.int boot_int ?_)) | with_reducible refine je_not ?_ | with_reducible refine je_one ?_ | with_reducible refine je_and ?_ | with_reducible refine je_or ?_ | ((with_reducible show JE _ _ _ (.Compare _ [_, _] _ _) _ _); refine je_chain ?_) | ((with_reducible show JE _ _ _ (.Compare _ [_] _ _) _ _); refine je_cmp ?_) | with_reducible refine je_op ?_ | with_reducible refine je_tup ?_ | with_reducible refine je_ifExp ?_) | ((with_reducible show Exists _); refine ⟨_, rfl, ?_⟩) | ((with_reducible show ite _ _ _); first | refine ite_t rfl ?_ | refine ite_f rfl ?_) | ((with_reducible show OpD _ _ _ _ _ _); first | with_reducible refine opd_addI ?_ | with_reducible refine opd_subI ?_ | with_reducible refine opd_ltI ?_ | with_reducible refine opd_leI ?_ | with_reducible refine opd_gtI ?_ | with_reducible refine opd_geI ?_ | with_reducible refine opd_eqI ?_ | with_reducible refine opd_neI ?_ | with_reducible refine opd_eqS ?_ | with_reducible refine opd_neS ?_ | with_reducible refine opd_eqB ?_ | with_reducible refine opd_neB ?_) | ((with_reducible show JA _ _ _ _ _ _); first | with_reducible refine ja_nil ?_ | refine ja_cons ?_) | ((with_reducible show JT _ _ _ _ _ _); first | with_reducible refine jt_not ?_ | ((with_reducible show JT _ _ _ (.BoolOp .Or _ _) _ _); with_reducible refine jt_w (jw_or ?_)) | ((with_reducible show JT _ _ _ (.BoolOp .And _ _) _ _); with_reducible refine jt_w (jw_and ?_)) | ((with_reducible show JT _ _ _ (.Compare _ [_, _] _ _) _ _); refine jt_chain ?_) | ((with_reducible show JT _ _ _ (.Compare _ [_] _ _) _ _); refine jt_cmp ?_) | ((with_reducible show JT _ _ _ (.Call _ _ _ _) _ _); refine jt_val ?_)) | ((with_reducible show JW _ _ _ _ _ _); first | with_reducible refine jw_or1 ?_ | with_reducible refine jw_and1 ?_ | with_reducible refine jw_or ?_ | with_reducible refine jw_and ?_) | ((with_reducible show JSs _ _ _ _ _); first | with_reducible refine jss_one ?_ | with_reducible refine jss_cons ?_ | with_reducible refine jss_nil ?_) | ((with_reducible show JS _ _ _ _ _); first | with_reducible refine js_if ?_ | with_reducible refine js_ret ?_ | with_reducible refine js_retN ?_ | ((with_reducible show JS _ _ _ (.Expr _ _) _); refine js_expr ?_) | ((with_reducible show JS _ _ _ (.Assign [.Name _ _] _ _) _); first | ((with_reducible show JS _ _ _ (.Assign [.Name (Str.ofString "pen") _] _ _) _); refine js_set 0 ?_ nd) | ((with_reducible show JS _ _ _ (.Assign [.Name (Str.ofString "rows") _] _ _) _); refine js_set 1 ?_ nd) | ((with_reducible show JS _ _ _ (.Assign [.Name (Str.ofString "at") _] _ _) _); refine js_set 2 ?_ nd) | ((with_reducible show JS _ _ _ (.Assign [.Name (Str.ofString "spot") _] _ _) _); refine js_set 3 ?_ nd) | ((with_reducible show JS _ _ _ (.Assign [.Name (Str.ofString "odd") _] _ _) _); refine js_set 4 ?_ nd) | ((with_reducible show JS _ _ _ (.Assign [.Name (Str.ofString "row") _] _ _) _); refine js_set 5 ?_ nd) | ((with_reducible show JS _ _ _ (.Assign [.Name (Str.ofString "way") _] _ _) _); refine js_set 6 ?_ nd))) | ((with_reducible show JG _ _ _ (.Name _ _) _ _); first | ((with_reducible show JG _ _ _ (.Name (Str.ofString "pen") _) _ _); refine jg_name 0 ?_ nd) | ((with_reducible show JG _ _ _ (.Name (Str.ofString "rows") _) _ _); refine jg_name 1 ?_ nd) | ((with_reducible show JG _ _ _ (.Name (Str.ofString "at") _) _ _); refine jg_name 2 ?_ nd) | ((with_reducible show JG _ _ _ (.Name (Str.ofString "spot") _) _ _); refine jg_name 3 ?_ nd) | ((with_reducible show JG _ _ _ (.Name (Str.ofString "odd") _) _ _); refine jg_name 4 ?_ nd) | ((with_reducible show JG _ _ _ (.Name (Str.ofString "row") _) _ _); refine jg_name 5 ?_ nd) | ((with_reducible show JG _ _ _ (.Name (Str.ofString "way") _) _ _); refine jg_name 6 ?_ nd))))
theorem scBent : FnScope ["pen", "rows", "at", "spot", "odd", "row", "way"] ["pen", "rows"] (defScope sBent) := ⟨rfl, rfl, rfl, by decide +kernel, rfl, by decide +kernel, by decide +kernel⟩
theorem ok_bent (F : Fun K "_law_bent" "_law_bent" sBent f fd) (b : Bn mg) (gD : GFn P w K mg base 1 "_law_draw" [] spDraw) (gK : GFn P w K mg base 2 "_law_pick" [] spPick) : FnOk P w K mg base (L2.CX P w) 3 f fd ["pen", "rows"] (spD K spBent) := by
  refine fn_d F scBent (fun ds M Φ Ψ h => ?_) (fun cdv A outer s H E hr ds M Φ Ψ h => ?_)
  · obtain ⟨p, rows, n, c, rfl, _⟩ := h
    rfl
  · obtain ⟨p, rows, n, c, rfl, hl, hR, rfl, hc, h⟩ := h
    have hu := hr.units
    have nd := scBent.nd
    show JSs _ [some (.raw (.ref p)), some (.lst rows), none, none, none, none, none] [(p, c)] _ _
    -- at, spot
    refine jss_cons (js_par 2 3 (ja_cons (je_call gD (hr.mono (by decide)) (ja_cons (je_var 0 rfl (ja_cons (je_op (je_len b.len (je_var 1 rfl ⟨_, .inl ⟨rows, rfl, rfl⟩, je_int (opd_addI (ja_nil (use_draw (n := n + 5) 0 rfl hc (by omega) (by omega) fun at' c1 a0 a1 hc1 => ?_)))⟩)))))))) nd)
    refine ja_cons (je_call gD (hr.mono (by decide)) (ja_cons (je_var 0 rfl (ja_cons (je_int (ja_nil (use_draw (n := n + 4) 0 rfl hc1 (by decide) (by decide) fun spot c2 s0 s1 hc2 => ja_nil ⟨_, _, rfl, ?_⟩)))))))
    show JSs _ [some (.raw (.ref p)), some (.lst rows), some (.int at'), some (.int spot), none, none, none] [(p, c2)] _ _
    -- odd
    refine jss_cut (fun Γ1 M1 => ∃ odd c, Γ1 = [some (.raw (.ref p)), some (.lst rows), some (.int at'), some (.int spot), some odd, none, none] ∧ M1 = [(p, c)] ∧ flat odd ∧ PenIs (n + 3) c) (js_set 4 (je_call gK (hr.mono (by decide)) (ja_cons (je_var 0 rfl (ja_cons (je_ifExp (jt_cmp (je_var 3 rfl (je_lst ?_)))))))) nd) ?_
    · walk_at "jgo"
      refine ⟨by decide, opd_inD (u65 hr) rfl rfl ⟨_, rfl, ite_2 (fun _ => ?_) fun _ => ?_⟩⟩
      · refine je_lst ?_
        refine ja_cons (je_neg (je_int ⟨_, rfl, ?_⟩))
        walk_at "jgo"
        refine opd_powI ⟨by decide, by decide, by decide⟩ ?_
        walk_at "jgo"
        refine opd_powI ⟨by decide, by decide, by decide⟩ ?_
        walk_at "jgo"
        refine ⟨by show 6 ≤ 1000000; decide, ja_nil (use_pick (n := n + 3) 0 rfl hc2 (List.cons_ne_nil _ _) (by show 6 ≤ 1000000; decide) fun x c3 hx hc3 => ⟨x, c3, rfl, rfl, ?_, hc3⟩)⟩
        simp only [List.mem_cons, List.not_mem_nil, or_false] at hx
        rcases hx with rfl | rfl | rfl | rfl | rfl | rfl
        · exact flat_int
        · exact flat_non
        · exact flat_bl
        · exact flat_str (by decide +kernel) (by decide +kernel)
        · exact flat_int
        · exact flat_int
      · refine je_lst ?_
        walk_at "jgo"
        refine opd_mulS ⟨by decide, by decide +kernel, by decide +kernel⟩ ?_
        walk_at "jgo"
        refine ⟨by show 7 ≤ 1000000; decide, ja_nil (use_pick (n := n + 3) 0 rfl hc2 (List.cons_ne_nil _ _) (by show 7 ≤ 1000000; decide) fun x c3 hx hc3 => ⟨x, c3, rfl, rfl, ?_, hc3⟩)⟩
        simp only [List.mem_cons, List.not_mem_nil, or_false] at hx
        rcases hx with rfl | rfl | rfl | rfl | rfl | rfl | rfl
        · exact flat_str (by decide +kernel) (by decide +kernel)
        · exact flat_str (by decide +kernel) (by decide +kernel)
        · exact flat_str (by decide +kernel) (by decide +kernel)
        · exact flat_str (by decide +kernel) (by decide +kernel)
        · exact flat_str (by decide +kernel) (by decide +kernel)
        · exact flat_non
        · exact flat_int
    rintro Γ1 M1 ⟨odd, c3, rfl, rfl, ho, hc3⟩
    -- row
    refine jss_cons (js_set 5 (je_tup ?_) nd)
    walk_at "jgo"
    refine ⟨by decide, ?_⟩
    show JSs _ [some (.raw (.ref p)), some (.lst rows), some (.int at'), some (.int spot), some odd, some (.tup rowD), none] [(p, c3)] _ _
    refine jss_cons (js_set 5 (je_op (je_op (je_slice (je_var 5 rfl (jo_none (jo_some (je_var 3 rfl ⟨_, rfl, True.intro, _, rfl, je_tup (ja_cons (je_var 4 rfl (ja_nil ⟨by show 1 ≤ 1000000; decide, opd_addT ?_ ?_⟩)))⟩))))))) nd)
    · exact Nat.le_trans (Nat.add_le_add_right cut_le 1) (by decide)
    refine je_slice (je_var 5 rfl (jo_some (je_op (je_var 3 rfl (je_int (opd_addI ⟨_, rfl, jo_none ⟨True.intro, _, rfl, opd_addT ?_ ?_⟩⟩))))))
    · refine Nat.le_trans (Nat.add_le_add (by rw [List.length_append]; exact Nat.add_le_add_right cut_le 1) cut_le) (by decide)
    have hrow := row_mid spot s0 s1 ho
    show JSs _ [some (.raw (.ref p)), some (.lst rows), some (.int at'), some (.int spot), some odd, some (.tup ((DL.cutD rowD none (some spot) ++ [odd]) ++ DL.cutD rowD (some (spot + 1)) none)), none] [(p, c3)] _ _
    generalize D.tup ((DL.cutD rowD none (some spot) ++ [odd]) ++ DL.cutD rowD (some (spot + 1)) none) = row at hrow
    -- way
    refine jss_cons (js_set 6 (je_call gD (hr.mono (by decide)) (ja_cons (je_var 0 rfl (ja_cons (je_int (ja_nil (use_draw (n := n + 2) 0 rfl hc3 (by decide) (by decide) fun way c4 w0 w1 hc4 => ?_))))))) nd)
    show JSs _ [some (.raw (.ref p)), some (.lst rows), some (.int at'), some (.int spot), some odd, some row, some (.int way)] [(p, c4)] _ _
    refine jss_cut (fun Γ1 M1 => ∃ row c, Γ1 = [some (.raw (.ref p)), some (.lst rows), some (.int at'), some (.int spot), some odd, some row, some (.int way)] ∧ M1 = [(p, c)] ∧ flatRow 5 row ∧ PenIs (n + 1) c) (js_if ?_) ?_
    · refine jt_w (jw_and (jt_cmp (je_var 6 rfl (je_int (opd_eqI ⟨_, rfl, ite_2 (fun _ => ?_) fun _ => ?_⟩)))))
      · refine jw_and1 (jt_cmp (je_var 1 rfl (je_lst (ja_nil ⟨by decide, opd_neD hu (fit_lst fun x hx => row_fit (hR x hx)) rfl ⟨_, rfl, ite_2 (fun e => ?_) fun _ => ?_⟩⟩))))
        · rw [eqd_nil, Bool.not_eq_true'] at e
          have hne : rows ≠ [] := fun q => by rw [q] at e; cases e
          refine jss_one (js_set 5 (je_op (je_slice ?_)) nd)
          refine je_call gK (hr.mono (by decide)) (ja_cons (je_var 0 rfl (ja_cons (je_var 1 rfl (ja_nil ?_)))))
          refine use_pick (n := n + 1) 0 rfl hc4 hne (by omega) fun x c5 hx hc5 => ?_
          obtain ⟨a, m, c', k, e', rfl, ha, _⟩ := isRow_is' (hR x hx)
          refine jo_none (jo_some (je_int ⟨_, rfl, True.intro, _, slD_key, je_tup ?_⟩))
          walk_at "jgo"
          refine ⟨by decide, opd_addT (by show 2 + 3 ≤ 1000000; decide) ⟨_, c5, rfl, rfl, ⟨_, rfl, rfl, fun y hy => ?_⟩, hc5⟩⟩
          simp only [List.cons_append, List.nil_append, List.mem_cons, List.not_mem_nil, or_false] at hy
          rcases hy with rfl | rfl | rfl | rfl | rfl
          · exact flat_name ha
          · exact flat_int
          · exact flat_str (by decide +kernel) (by decide +kernel)
          · exact flat_int
          · exact flat_int
        · exact jss_nil ⟨row, c4, rfl, rfl, hrow, hc4.less (by omega)⟩
      · exact ite_f rfl (jss_nil ⟨row, c4, rfl, rfl, hrow, hc4.less (by omega)⟩)
    clear hrow row
    rintro Γ1 M1 ⟨row, c5, rfl, rfl, hrow, hc5⟩
    -- a row of another kind
    refine jss_cut (fun Γ1 M1 => ∃ row c, Γ1 = [some (.raw (.ref p)), some (.lst rows), some (.int at'), some (.int spot), some odd, some row, some (.int way)] ∧ M1 = [(p, c)] ∧ bentRow row ∧ (way = 2 → PenIs (n + 1) c) ∧ PenIs n c) (js_if ?_) ?_
    · refine jt_cmp (je_var 6 rfl (je_int (opd_eqI ⟨_, rfl, ite_2 (fun e => ?_) fun _ => ?_⟩)))
      · have e := of_decide_eq_true e
        obtain ⟨ys, rfl, hy5, hys⟩ := hrow
        refine jss_one (js_set 5 ?_ nd)
        refine je_call gK (hr.mono (by decide)) (ja_cons (je_var 0 rfl (ja_cons (je_lst ?_))))
        refine ja_cons (je_callT b.list boot_list (ja_cons (je_var 5 rfl (ja_nil (cd_listT ?_)))))
        refine ja_cons (je_slice (je_var 5 rfl (jo_none (jo_some (je_int ⟨_, rfl, True.intro, _, rfl, ?_⟩)))))
        refine ja_cons (je_op (je_var 5 rfl (je_tup (ja_cons (je_int (ja_nil ⟨by show 1 ≤ 1000000; decide, opd_addT (by rw [hy5]; decide) ?_⟩))))))
        walk_at "jgo"
        refine ⟨by decide, ?_⟩
        walk_at "jgo"
        refine ⟨by show 6 ≤ 1000000; decide, ja_nil (use_pick (n := n) 0 rfl hc5 (List.cons_ne_nil _ _) (by show 6 ≤ 1000000; decide) fun x c6 hx hc6 => ⟨x, c6, rfl, rfl, ?_, fun q => absurd q (by omega), hc6⟩)⟩
        simp only [List.mem_cons, List.not_mem_nil, or_false] at hx
        rcases hx with rfl | rfl | rfl | rfl | rfl | rfl
        · exact lst_bent (by omega) hys
        · exact tup_bent (Nat.le_trans cut_le (by omega)) fun y hy => hys y (cut_mem hy)
        · refine tup_bent (by rw [List.length_append, hy5]; decide) fun y hy => ?_
          rcases List.mem_append.mp hy with hy | hy
          · exact hys y hy
          · rw [List.mem_singleton.mp hy]
            exact flat_int
        · exact flat_bent flat_non
        · exact flat_bent (flat_str (by decide +kernel) (by decide +kernel))
        · exact tup_bent (by decide) fun y hy => by simp at hy
      · exact jss_nil ⟨row, c5, rfl, rfl, hrow.bent (by decide), fun _ => hc5, hc5.less (by omega)⟩
    rintro Γ1 M1 ⟨row2, c6, rfl, rfl, hrow2, hc6, hc7⟩
    refine jss_cons (js_if (jt_cmp (je_var 6 rfl (je_int (opd_eqI ⟨_, rfl, ite_2 (fun e => ?_) fun _ => ?_⟩)))))
    · have e := of_decide_eq_true e
      refine jss_one (js_ret (je_call gK (hr.mono (by decide)) (ja_cons (je_var 0 rfl (ja_cons (je_lst ?_))))))
      walk_at "jgo"
      refine je_d0 ?_
      walk_at "jgo"
      refine ⟨by show 5 ≤ 1000000; decide, ja_nil (use_pick (n := n) 0 rfl (hc6 e) (List.cons_ne_nil _ _) (by show 5 ≤ 1000000; decide) fun x c8 hx hc8 => ?_)⟩
      have hf : flat x := by
        simp only [List.mem_cons, List.not_mem_nil, or_false] at hx
        rcases hx with rfl | rfl | rfl | rfl | rfl
        · exact flat_non
        · exact flat_int
        · exact flat_str (by decide +kernel) (by decide +kernel)
        · exact ⟨⟨⟨_, rfl⟩, fun _ e => by cases e⟩, rfl⟩
        · exact flat_bl
      exact h x c8 (flat_rows hf).1 (flat_rows hf).2 hc8
    · refine jss_nil (jss_one (js_ret (je_op (je_op (je_slice ?_)))))
      refine je_var 1 rfl (jo_none (jo_some (je_var 2 rfl ⟨_, rfl, True.intro, _, rfl, ?_⟩)))
      refine je_lst (ja_cons (je_var 5 rfl (ja_nil ⟨by show 1 ≤ 1000000; decide, opd_addL ?_ ?_⟩)))
      · have := cut_le (xs := rows) (lo := none) (hi := some at')
        show _ + 1 ≤ 1000000
        omega
      refine je_slice (je_var 1 rfl (jo_some (je_var 2 rfl ⟨_, rfl, jo_none ⟨True.intro, _, rfl, opd_addL ?_ ?_⟩⟩)))
      · have h1 := cut_le (xs := rows) (lo := none) (hi := some at')
        have h2 := cut_le (xs := rows) (lo := some at') (hi := none)
        rw [List.length_append]
        show _ + 1 + _ ≤ 1000000
        omega
      · have hb := lev_bent (rows := (DL.cutD rows none (some at') ++ [row2]) ++ DL.cutD rows (some at') none) (by
          have h1 := cut_le (xs := rows) (lo := none) (hi := some at')
          have h2 := cut_le (xs := rows) (lo := some at') (hi := none)
          rw [List.length_append, List.length_append]
          show _ + 1 + _ ≤ 1000
          omega) fun r hr' => by
            rcases List.mem_append.mp hr' with hr' | hr'
            · rcases List.mem_append.mp hr' with hr' | hr'
              · exact (row_flat (hR r (cut_mem hr'))).bent (by decide)
              · rw [List.mem_singleton.mp hr']
                exact hrow2
            · exact (row_flat (hR r (cut_mem hr'))).bent (by decide)
        exact h _ c6 hb.1 hb.2 hc7
end
end K27
end

section
set_option Elab.async false
set_option linter.all false
set_option maxRecDepth 100000
set_option maxHeartbeats 4000000
set_option pp.maxSteps 700
set_option hygiene false
open PySem PyProof.Rows L2 DL
namespace K27
open PySem PySem.Spec PyProof.Rows L2 DL
theorem name_of {i : Nat} {z : Str} (hi : i < 10) (h : NameOf i z) : isName (.str z) = true := by
  obtain ⟨w, pl, h1, h2, h3, hl, rfl⟩ := h
  rw [nm_eq]
  unfold lawNm
  have e : (⟨(w.take pl ++ (48 + i) :: w.drop pl).toArray⟩ : Str).length = w.length + 1 := by
    rw [str_len, List.length_append, List.length_take, List.length_cons, List.length_drop]
    omega
  rw [e]
  simp only [Bool.and_eq_true, decide_eq_true_eq, List.all_eq_true, mem_alph, mem_36]
  refine ⟨⟨⟨by omega, by omega⟩, ?_⟩, fun c hc => ?_⟩
  · cases w with
    | nil => simp at h2; omega
    | cons a r =>
      cases pl with
      | zero => omega
      | succ pl =>
        show 97 ≤ a ∧ a ≤ 122
        exact hl a List.mem_cons_self
  · have hc : c ∈ w.take pl ++ (48 + i) :: w.drop pl := hc
    rcases List.mem_append.mp hc with hc | hc
    · exact .inl (hl c (List.mem_of_mem_take hc))
    · rcases List.mem_cons.mp hc with rfl | hc
      · exact .inr ⟨by omega, by omega⟩
      · exact .inl (hl c (List.mem_of_mem_drop hc))
/-! ### the plan -/
theorem plan_put {kvs : List (D × D)} {a c : Str} {m i e : Int} (h : PlanKv kvs) (hl : kvs.length < 100) (hr : isRow (.tup [.str a, .int m, .str c, .int i, .int e]) = true) (he : e ≤ 100) : PlanKv (ptD kvs (.tup [.str a, .int m]) (.tup [.str c, .int i, .int e])) := by
  have hk := pt_keys kvs (.tup [.str a, .int m]) (.tup [.str c, .int i, .int e])
  refine ⟨by have := ptD_length kvs (.tup [.str a, .int m]) (.tup [.str c, .int i, .int e]); omega, ?_, fun kv hkv => ?_⟩
  · rw [hk]
    split
    · exact h.2.1
    · rename_i hn
      refine List.nodup_append.mpr ⟨h.2.1, by simp, fun x hx y hy => ?_⟩
      rw [List.mem_singleton.mp hy]
      exact fun e => hn (by rw [← e]; exact hx)
  · unfold ptD at hkv
    split at hkv
    · obtain ⟨q, hq, rfl⟩ := List.mem_map.mp hkv
      split
      · rename_i e'
        rw [e']
        exact ⟨a, m, c, i, e, rfl, hr, he⟩
      · exact h.2.2 q hq
    · rcases List.mem_append.mp hkv with hkv | hkv
      · exact h.2.2 kv hkv
      · rw [List.mem_singleton.mp hkv]
        exact ⟨a, m, c, i, e, rfl, hr, he⟩
theorem plan_nil : PlanKv [] := ⟨Nat.zero_le _, List.nodup_nil, fun kv h => by simp at h⟩
/-- rows that are the plan's, in any order -/
def RowsOf (kvs : List (D × D)) (rows : List D) : Prop := PlanKv kvs ∧ rows.Perm (kvs.map rowOf)
section
variable {kvs : List (D × D)} {rows : List D}
theorem item_row {kv : D × D} (h : IsItem kv) : isRow (rowOf kv) = true ∧ key2 (rowOf kv) = kv.1 ∧ val3 (rowOf kv) = kv.2 := by
  obtain ⟨a, m, c, i, e, rfl, hr, _⟩ := h
  exact ⟨hr, rfl, rfl⟩
theorem RowsOf.isRow (h : RowsOf kvs rows) : ∀ r ∈ rows, isRow r = true := fun r hr => by
  obtain ⟨kv, hkv, rfl⟩ := List.mem_map.mp (h.2.mem_iff.mp hr)
  exact (item_row (h.1.2.2 kv hkv)).1
theorem RowsOf.len (h : RowsOf kvs rows) : rows.length ≤ 100 := by
  have := h.2.length_eq
  rw [List.length_map] at this
  have := h.1.1
  omega
theorem RowsOf.nodup (h : RowsOf kvs rows) : (rows.map key2).Nodup := by
  have e : (kvs.map rowOf).map key2 = kvs.map (·.1) := by
    rw [List.map_map]
    exact List.map_congr_left fun kv hkv => (item_row (h.1.2.2 kv hkv)).2.1
  have := h.2.map key2
  rw [e] at this
  exact this.nodup_iff.mpr h.1.2.1
theorem ok_of {rows : List D} (hl : rows.length ≤ 1000) (h : ∀ r ∈ rows, K27.isRow r = true) : ∀ d, d = .tup rows ∨ d = .lst rows → okRows d := fun d hd => by
  refine ⟨by rcases hd with rfl | rfl <;> exact ⟨_, rfl⟩, fun xs e => ?_⟩
  have ex : xs = rows := by
    rcases hd with rfl | rfl <;> rcases e with e | e <;> cases e <;> rfl
  subst ex
  exact ⟨hl, fun x hx => ((row_flat (h x hx)).bent (by decide)).1⟩
theorem plan_ok {rows : List D} (h : ∀ r ∈ rows, K27.isRow r = true) (hn : (rows.map key2).Nodup) : planOk rows = true := by
  unfold planOk
  rw [seen_nodup, decide_eq_true hn, List.all_eq_true.mpr h]
  rfl
theorem told_map : ∀ {xs : List D} {acc : List (D × D)}, (acc.map (·.1) ++ xs.map key2).Nodup → xs.foldl (fun acc r => ptD acc (key2 r) (val3 r)) acc = acc ++ xs.map fun r => (key2 r, val3 r)
  | [], acc, _ => by simp
  | x :: xs, acc, h => by
    rw [List.foldl_cons, List.map_cons]
    have hx : key2 x ∉ acc.map (·.1) := fun m => (List.nodup_append.mp h).2.2 _ m _ (List.mem_map.mpr ⟨x, List.mem_cons_self, rfl⟩) rfl
    have e : ptD acc (key2 x) (val3 x) = acc ++ [(key2 x, val3 x)] := by
      unfold ptD
      rw [if_neg]
      intro q
      obtain ⟨p, hp, e⟩ := List.any_eq_true.mp q
      exact hx (List.mem_map.mpr ⟨p, hp, of_decide_eq_true e⟩)
    rw [e, told_map (acc := acc ++ [(key2 x, val3 x)]) (by
      rw [List.map_append, List.append_assoc]
      exact h), List.append_assoc]
    rfl
theorem lk_perm {l l' : List (D × D)} (hn : (l.map (·.1)).Nodup) (hp : l.Perm l') (k : D) : lkD l k = lkD l' k := by
  have hn' : (l'.map (·.1)).Nodup := (hp.map (·.1)).nodup_iff.mp hn
  by_cases h : k ∈ l.map (·.1)
  · obtain ⟨p, hp', rfl⟩ := List.mem_map.mp h
    rw [lk_mem hn (k := p.1) (v := p.2) hp', lk_mem hn' (k := p.1) (v := p.2) (hp.mem_iff.mp hp')]
  · rw [lk_none h, lk_none fun m => h ((hp.map (·.1)).mem_iff.mpr m)]
theorem RowsOf.told (h : RowsOf kvs rows) (k : D) : lkD (K27.told (sortD rows)) k = lkD kvs k := by
  have hps : (sortD rows).Perm (kvs.map rowOf) := (List.mergeSort_perm rows leD).trans h.2
  have hs : RowsOf kvs (sortD rows) := ⟨h.1, hps⟩
  have e : K27.told (sortD rows) = (sortD rows).map fun r => (key2 r, val3 r) := by
    unfold K27.told
    rw [told_map (by simpa using hs.nodup)]
    rfl
  have e2 : (kvs.map rowOf).map (fun r => (key2 r, val3 r)) = kvs := by
    rw [List.map_map]
    conv => rhs; rw [← List.map_id kvs]
    refine List.map_congr_left fun kv hkv => ?_
    obtain ⟨_, h1, h2⟩ := item_row (h.1.2.2 kv hkv)
    show (key2 (rowOf kv), val3 (rowOf kv)) = kv
    rw [h1, h2]
  rw [e]
  have hp := hps.map (fun r => (key2 r, val3 r))
  rw [e2] at hp
  exact (lk_perm h.1.2.1 hp.symm k).symm
/-! ### == of rows -/
theorem eqd_row {x y : D} (hx : K27.isRow x = true) (hy : K27.isRow y = true) (h : eqd x y = true) : x = y := by
  obtain ⟨a, m, c, k, e, rfl⟩ := isRow_is hx
  obtain ⟨a', m', c', k', e', rfl⟩ := isRow_is hy
  simp only [eqd, py, pyA, PyData.eqv, PyData.eqvAll, Bool.and_eq_true, beq_iff_eq, and_true] at h
  obtain ⟨rfl, rfl, rfl, rfl, rfl⟩ := h
  rfl
theorem eqd_rows : ∀ {xs ys : List D}, (∀ x ∈ xs, K27.isRow x = true) → (∀ y ∈ ys, K27.isRow y = true) → eqd (.tup xs) (.tup ys) = true → xs = ys
  | [], [], _, _, _ => rfl
  | [], _ :: _, _, _, h => by simp [eqd, py, pyA, PyData.eqv, PyData.eqvAll] at h
  | _ :: _, [], _, _, h => by simp [eqd, py, pyA, PyData.eqv, PyData.eqvAll] at h
  | x :: xs, y :: ys, hx, hy, h => by
    have h' : (PyData.eqv (py x) (py y) && PyData.eqvAll (pyA xs) (pyA ys)) = true := h
    rw [Bool.and_eq_true] at h'
    rw [eqd_row (hx x List.mem_cons_self) (hy y List.mem_cons_self) h'.1, eqd_rows (fun z hz => hx z (List.mem_cons_of_mem _ hz)) (fun z hz => hy z (List.mem_cons_of_mem _ hz)) h'.2]
theorem eqd_self {x : D} (hx : K27.isRow x = true) : eqd x x = true := by
  obtain ⟨a, m, c, k, e, rfl⟩ := isRow_is hx
  simp [eqd, py, pyA, PyData.eqv, PyData.eqvAll]
theorem eqd_selfs : ∀ {xs : List D}, (∀ x ∈ xs, K27.isRow x = true) → eqd (.tup xs) (.tup xs) = true
  | [], _ => by simp [eqd, py, pyA, PyData.eqv, PyData.eqvAll]
  | x :: xs, hx => by
    show (PyData.eqv (py x) (py x) && PyData.eqvAll (pyA xs) (pyA xs)) = true
    have h1 : PyData.eqv (py x) (py x) = true := eqd_self (hx x List.mem_cons_self)
    have h2 : PyData.eqvAll (pyA xs) (pyA xs) = true := eqd_selfs fun z hz => hx z (List.mem_cons_of_mem _ hz)
    rw [h1, h2]
    rfl
theorem sort_rows {xs : List D} (h : ∀ x ∈ xs, K27.isRow x = true) : ∀ x ∈ sortD xs, K27.isRow x = true := fun x hx => h x (sort_mem.mp hx)
/-- sorting forgets the order -/
theorem sort_perm {xs ys : List D} (h : ∀ x ∈ xs, K27.isRow x = true) (hp : xs.Perm ys) : sortD xs = sortD ys := by
  have T := PySem.W.sortLe_total (listOrd itemOrd) false fun b : D => PySem.W.keyToks (py b)
  have tr : ∀ a b c : D, leD a b = true → leD b c = true → leD a c = true := T.trans
  have tt : ∀ a b : D, (leD a b || leD b a) = true := fun a b => by
    rw [Bool.or_eq_true]
    exact T.total a b
  have p1 := List.pairwise_mergeSort tr tt xs
  have p2 := List.pairwise_mergeSort tr tt ys
  refine List.Perm.eq_of_pairwise (le := fun a b => leD a b = true) (fun x y hx hy h1 h2 => ?_) p1 p2 (((List.mergeSort_perm xs leD).trans hp).trans (List.mergeSort_perm ys leD).symm)
  have ix := h x (sort_mem.mp hx)
  have iy := h y (hp.mem_iff.mpr (sort_mem.mp hy))
  have h1' : (!(listOrd itemOrd).blt (PySem.W.keyToks (py y)) (PySem.W.keyToks (py x))) = true := h1
  have h2' : (!(listOrd itemOrd).blt (PySem.W.keyToks (py x)) (PySem.W.keyToks (py y))) = true := h2
  rw [Bool.not_eq_true'] at h1' h2'
  have e := (listOrd itemOrd).total _ _ h2' h1'
  obtain ⟨a, m, c, k, e1, rfl⟩ := isRow_is ix
  obtain ⟨a', m', c', k', e1', rfl⟩ := isRow_is iy
  simp only [py, pyA, PySem.W.keyToks, PySem.W.keyToksAll, List.cons_append, List.nil_append, List.cons.injEq, Sum.inl.injEq, Sum.inr.injEq, true_and, and_true] at e
  obtain ⟨ea, rfl, ec, rfl, rfl⟩ := e
  rw [PySem.W.str_of_cps ea, PySem.W.str_of_cps ec]
end
end K27
end

section
set_option Elab.async false
set_option linter.all false
set_option maxRecDepth 100000
set_option maxHeartbeats 4000000
set_option pp.maxSteps 700
set_option hygiene false
open PySem PyProof.Rows L2 DL
namespace K27
open PySem PySem.Spec PyProof.Rows L2 DL
abbrev sLaw : Stmt := top 26
abbrev NL : List Str := ["script", "pen", "lap", "names", "plan", "turn", "key", "rows", "told", "place", "memory", "is_there", "bent", "due"]
theorem scLaw : FnScope NL ["script"] (defScope sLaw) := ⟨rfl, rfl, rfl, by decide +kernel, rfl, by decide +kernel, by decide +kernel⟩
/-- what the law's defs promise -/
structure Gs (P : Program) (w : World) (K : PySem.W.Frag) (mg : Str → Option Value) (base : Heap) (C CB : Addr) : Prop where
  gD : GFn P w K mg base 1 "_law_draw" [] spDraw
  gK : GFn P w K mg base 2 "_law_pick" [] spPick
  gS : GFn P w K mg base 2 "_law_shuffled" [] spShuf
  gN : GFn P w K mg base 3 "_law_names" [] spNames
  gR : GFn P w K mg base 1 "_law_plan_rows" [] spPlanRows
  gM : GFn P w K mg base 7 "_law_made" [] (spMade C)
  gA : GFn P w K mg base 5 "_law_alike" [] (spAlike 4)
  gU : GFn P w K mg base 1 "_law_is_number" [] spNum
  gB : GFn P w K mg base 3 "_law_bent" [] spBent
  gE : GFn P w K mg base 2 "_law_are_rows" [] spAre
  gP : GMk P w K mg base 5 "Plan" C [] (spInit C CB)
  eq : GMe P w K mg base 1 C "__eq__" [] (spEq C)
  len : GMe P w K mg base 1 C "__len__" [] (spLen C)
  rat : GMe P w K mg base 3 C "row_at" [] (spRowAt C)
  n1 : NoAttr K C "rows"
  nf : PySem.W.notFirst K C (.type "tuple") = true
theorem at_eq {kvs : List (D × D)} {rows : List D} (h : RowsOf kvs rows) {p m : D} (hp : isName p = isT "str" p) (hm : isWhole m (.int 0) .non = num m) : (if ((num m && isT "str" p) && (lkD kvs (.tup [p, m])).isSome) = true then (lkD kvs (.tup [p, m])).getD .non else .non) = rowAt rows p m := by
  unfold rowAt
  rw [h.told, hp, hm]
  cases isT "str" p <;> cases num m <;> cases lkD kvs (.tup [p, m]) <;> rfl
theorem mk_at {p t : Addr} {c x : Cell} {rest : Mem} : ((p, c) :: (rest ++ [(t, x)]))[rest.length + 1]? = some (t, x) := by simp
theorem mk_set {p t : Addr} {c x y : Cell} {rest : Mem} : ((p, c) :: (rest ++ [(t, x)])).set (rest.length + 1) (t, y) = (p, c) :: (rest ++ [(t, y)]) := by simp
theorem num_le {i : Int} (h0 : 0 ≤ i) (h1 : i ≤ MOST) : num (.int i) = true := by
  show (decide ((0 : Int) ≤ i) && decide (i ≤ MOST)) = true
  rw [decide_eq_true h0, decide_eq_true h1]
  rfl
theorem lev_row {r : D} (h : isRow r = true) : lev 2 r := ((row_flat h).bent (by decide)).2
theorem lev_more {n : Nat} : ∀ {d : D}, lev n d → lev (n + 1) d := by
  induction n with
  | zero => exact fun {d} h => lev_up h
  | succ n ih =>
    intro d h
    cases d with
    | tup xs => exact ⟨h.1, fun x hx => ih (h.2 x hx)⟩
    | lst xs => exact ⟨h.1, fun x hx => ih (h.2 x hx)⟩
    | _ => exact h
theorem lev_rows {rows : List D} (h : rowsOk rows) : lev 4 (.tup (sortD rows)) := by
  refine ⟨by rw [sort_length]; have := h.1; omega, fun x hx => lev_more (lev_row (h.2 x (sort_mem.mp hx)))⟩
theorem lk_some {k v : D} : ∀ {kvs : List (D × D)}, lkD kvs k = some v → (k, v) ∈ kvs
  | [], h => by cases h
  | (j, u) :: kvs, h => by
    unfold lkD at h
    by_cases e : j = k
    · rw [List.find?_cons_of_pos (by simp [e])] at h
      cases h
      rw [e]
      exact List.mem_cons_self
    · rw [List.find?_cons_of_neg (by simpa using e)] at h
      exact List.mem_cons_of_mem _ (lk_some h)
theorem lev_at {kvs : List (D × D)} {rows : List D} (h : RowsOf kvs rows) (p m : D) : lev 4 (rowAt rows p m) := by
  unfold rowAt
  split
  · split
    · rw [h.told]
      cases q : lkD kvs (.tup [p, m]) with
      | none => exact True.intro
      | some v =>
        obtain ⟨a, m', c, i, e, ee, hr, _⟩ := h.1.2.2 _ (lk_some q)
        cases ee
        have hr : (isName (.str a) && isName (.str c) && (num (.int m') && (num (.int i) && num (.int e)))) = true := hr
        simp only [Bool.and_eq_true] at hr
        have hc := name_ok hr.1.2
        refine ⟨by show 3 ≤ 100000; decide, fun x hx => ?_⟩
        simp only [List.mem_cons, List.not_mem_nil, or_false] at hx
        rcases hx with rfl | rfl | rfl
        · exact hc
        · exact True.intro
        · exact True.intro
    · exact True.intro
  · exact True.intro
end K27
end

section
set_option Elab.async false
set_option linter.all false
set_option maxRecDepth 100000
set_option maxHeartbeats 4000000
set_option pp.maxSteps 700
set_option hygiene false
open PySem PyProof.Rows L2 DL
namespace K27
open PySem PySem.Spec PyProof.Rows L2 DL
def forBody : Stmt → List Stmt
  | .For _ _ b _ _ => b
  | _ => []
abbrev lapB : List Stmt := forBody ((defBody sLaw).getD 1 (.Pass ⟨0, 0, 0, 0⟩))
theorem at0 {r : D} {rs : List D} : atI (r :: rs) 0 = some r := atI_nat (j := 0) rfl
theorem cut_tail {r : D} {rs : List D} : DL.cutD (r :: rs) (some 1) none = rs := by
  unfold DL.cutD
  rw [HT.sIx_none, show (1 : Int) = ((1 : Nat) : Int) from rfl, HT.sIx_nat]
  rw [Nat.min_eq_left (by rw [List.length_cons]; omega)]
  show rs.take (rs.length + 1 - 1) = rs
  exact List.take_of_length_le (by omega)
theorem eqd_no {xs ys : List D} (hx : ∀ r ∈ xs, isRow r = true) (hy : ∀ r ∈ ys, isRow r = true) (h : ¬ xs.Perm ys) : eqd (.tup (sortD xs)) (.tup (sortD ys)) = false := by
  rw [Bool.eq_false_iff]
  intro q
  have e := eqd_rows (sort_rows hx) (sort_rows hy) q
  refine h ?_
  have p1 := (List.mergeSort_perm xs leD).symm
  have p2 := List.mergeSort_perm ys leD
  have e' : xs.mergeSort leD = ys.mergeSort leD := e
  rw [e'] at p1
  exact p1.trans p2
noncomputable def dueOf (d : D) : D := if (planOf d).isSome = true then .lst [.str "fine"] else .lst [.str "row", .str "plan", d]
theorem lev_due {d : D} (h : lev 3 d) : lev 4 (dueOf d) := by
  unfold dueOf
  split
  · refine ⟨by show 1 ≤ 100000; decide, fun x hx => ?_⟩
    rw [List.mem_singleton.mp hx]
    show PyData.strOk _ = true
    decide +kernel
  · refine ⟨by show 3 ≤ 100000; decide, fun x hx => ?_⟩
    simp only [List.mem_cons, List.not_mem_nil, or_false] at hx
    rcases hx with rfl | rfl | rfl
    · show PyData.strOk _ = true
      decide +kernel
    · show PyData.strOk _ = true
      decide +kernel
    · exact h
section
variable {P : Program} {w : World} {K : PySem.W.Frag} {mg : Str → Option Value} {base : Heap} {f : Addr} {fd : FuncData} {C CB : Addr}
theorem law_tail {cdv : Value} {A : Around} {outer : List Env} {s : Shared} {H : Hp} {E : XK} {N0 i : Nat} (b : Bn mg) (G : Gs P w K mg base C CB) (hr : Room 9 (A.deeper (envOfC "law" (defScope sLaw) s.heap.objs.size f cdv))) {p : Addr} {g2 g3 g4 g5 g6 g9 g10 g11 g12 g13 : Option D} {c : Cell} {rest : Mem} {kvs : List (D × D)} {rows : List D} {Ps : Post} (hc : PenIs (N0 + 99) c) (hR : RowsOf kvs rows)
    (k : ∀ (g5 g12 g13 : Option D) (c : Cell), PenIs N0 c → Ps.nx [none, some (.raw (.ref p)), g2, g3, g4, g5, g6, some (.lst rows), some (.lst [.str "fine", .ins C (planIns C rows)]), g9, g10, g11, g12, g13] ((p, c) :: rest)) :
    JSs (cxOf (L2.CX P w) P w K mg base NL "law" (defScope sLaw) f cdv A outer s H E) [none, some (.raw (.ref p)), g2, g3, g4, g5, g6, some (.lst rows), some (.lst [.str "fine", .ins C (planIns C rows)]), g9, g10, g11, g12, g13] ((p, c) :: rest) (lapB.drop 6) Ps := by
  have hu := hr.units
  have nd := scLaw.nd
  have hrl := hR.len
  have hrok : rowsOk rows := ⟨by omega, hR.isRow⟩
  have noEq : (planIns C rows).lookup ("__eq__" : Str) = none := planIns_no C rows _ (by decide) (by decide)
  have fr : fit (.lst rows) = true := fit_lst fun x hx => row_fit (hR.isRow x hx)
  refine jss_cut (fun Γ M => Γ = [none, some (.raw (.ref p)), g2, g3, g4, g5, g6, some (.lst rows), some (.lst [.str "fine", .ins C (planIns C rows)]), g9, g10, g11, g12, g13] ∧ M = (p, c) :: rest) (js_if ?_) ?_
  · refine jt_w (jw_and (jt_cmp (je_var 7 rfl (je_lst (ja_nil ⟨by decide, opd_neD hu fr rfl ⟨_, rfl, ite_2 (fun e => ?_) fun _ => ite_f rfl (jss_nil ⟨rfl, rfl⟩)⟩⟩)))))
    rw [eqd_nil, Bool.not_eq_true'] at e
    obtain ⟨r0, tl, rfl⟩ : ∃ r0 tl, rows = r0 :: tl := by
      cases rows with
      | nil => cases e
      | cons r tl => exact ⟨r, tl, rfl⟩
    have hrow := hR.isRow
    have hnod := hR.nodup
    have isT : ∀ r ∈ tl, isRow r = true := fun r hr => hrow r (List.mem_cons_of_mem _ hr)
    have planS : ∀ ys : List D, (∀ r ∈ ys, isRow r = true) → (ys.map key2).Nodup → planOf (.lst ys) = some ys := fun ys h1 h2 => by
      rw [planOf_of (.inr rfl), plan_ok h1 h2]
      rfl
    have lt : tl.length ≤ 100 := by
      rw [List.length_cons] at hrl
      omega
    have nt : (tl.map key2).Nodup := (List.nodup_cons.mp hnod).2
    -- told[1] == Plan(rows[1:])
    refine jw_and1 (jt_w (jw_or (jt_cmp (je_ixL (je_var 8 rfl (je_int ⟨_, _, .ins C (planIns C (r0 :: tl)), rfl, rfl, rfl, ?_⟩))))))
    refine je_make G.gP (hr.mono (by decide)) (ja_cons (je_slice (je_var 7 rfl (jo_some (je_int ⟨_, rfl, jo_none ⟨True.intro, _, rfl, ?_⟩⟩)))))
    rw [cut_tail]
    refine ja_nil fun t => ⟨t, .lst tl, rfl, rfl, ok_of (by omega) isT _ (.inr rfl), fun xs hx => ⟨rfl, _, rfl, ?_⟩, fun hn => by rw [planS tl isT nt] at hn; cases hn⟩
    obtain rfl : tl = xs := by
      rw [planS tl isT nt] at hx
      exact Option.some.inj hx
    refine opd_ownEq G.eq (hr.mono (by decide)) (.inl ⟨_, rfl, noEq⟩) (.inl ⟨_, rfl⟩) (.none ⟨_, _, rfl, rfl, hrok, .inl ⟨tl, rfl, ⟨by omega, isT⟩, ⟨_, rfl⟩, _, rfl, ite_f ?_ ?_⟩⟩)
    · exact eqd_no hrow isT fun hp => by
        have := hp.length_eq
        rw [List.length_cons] at this
        omega
    -- not told[1] == Plan(rows[::-1])
    have isV : ∀ r ∈ (r0 :: tl).reverse, isRow r = true := fun r hr => hrow r (List.mem_reverse.mp hr)
    have nV : ((r0 :: tl).reverse.map key2).Nodup := (((List.reverse_perm (r0 :: tl)).map key2).nodup_iff).mpr hnod
    refine jw_or (jt_not (jt_cmp (je_ixL (je_var 8 rfl (je_int ⟨_, _, .ins C (planIns C (r0 :: tl)), rfl, rfl, rfl, ?_⟩)))))
    refine je_make G.gP (hr.mono (by decide)) (ja_cons (je_rev (je_var 7 rfl ⟨_, rfl, ?_⟩)))
    refine ja_nil fun t => ⟨t, .lst (r0 :: tl).reverse, rfl, rfl, ok_of (by rw [List.length_reverse]; omega) isV _ (.inr rfl), fun xs hx => ⟨rfl, _, rfl, ?_⟩, fun hn => by rw [planS _ isV nV] at hn; cases hn⟩
    obtain rfl : (r0 :: tl).reverse = xs := by
      rw [planS _ isV nV] at hx
      exact Option.some.inj hx
    refine opd_ownEq G.eq (hr.mono (by decide)) (.inl ⟨_, rfl, noEq⟩) (.inl ⟨_, rfl⟩) (.none ⟨_, _, rfl, rfl, hrok, .inl ⟨_, rfl, ⟨by rw [List.length_reverse]; omega, isV⟩, ⟨_, rfl⟩, _, rfl, ite_f ?_ ?_⟩⟩)
    · rw [sort_perm isV (List.reverse_perm (r0 :: tl)), eqd_selfs (sort_rows hrow)]
      rfl
    -- told[1] == Plan([..] + rows[1:])
    obtain ⟨kv, hkv, hr0⟩ := List.mem_map.mp (hR.2.mem_iff.mp List.mem_cons_self)
    obtain ⟨a, m, cc, ii, ee, rfl, hri, hee⟩ := hR.1.2.2 kv hkv
    have hr0 : r0 = .tup [.str a, .int m, .str cc, .int ii, .int ee] := hr0.symm
    subst hr0
    have hri' : isRow (.tup [.str a, .int m, .str cc, .int ii, .int (ee + 1)]) = true := by
      have h : (isName (.str a) && isName (.str cc) && (num (.int m) && (num (.int ii) && num (.int ee)))) = true := hri
      show (isName (.str a) && isName (.str cc) && (num (.int m) && (num (.int ii) && num (.int (ee + 1))))) = true
      simp only [Bool.and_eq_true] at h ⊢
      refine ⟨h.1, h.2.1, h.2.2.1, ?_⟩
      obtain ⟨x, hx, h0, h1⟩ := num_int h.2.2.2
      cases hx
      exact num_le (by omega) (by have : (101 : Int) ≤ MOST := by decide
                                  omega)
    have isN : ∀ r ∈ D.tup [.str a, .int m, .str cc, .int ii, .int (ee + 1)] :: tl, isRow r = true := fun r hr => by
      rcases List.mem_cons.mp hr with rfl | hr
      · exact hri'
      · exact isT r hr
    refine jw_or1 (jt_cmp (je_ixL (je_var 8 rfl (je_int ⟨_, _, .ins C (planIns C _), rfl, rfl, rfl, ?_⟩))))
    refine je_make G.gP (hr.mono (by decide)) (ja_cons (je_op (je_lst (ja_cons (je_op (je_slice (je_ixL ?_)))))))
    refine je_var 7 rfl (je_int ⟨_, _, _, rfl, rfl, at0, ?_⟩)
    refine jo_none (jo_some (je_int ⟨_, rfl, True.intro, _, rfl, ?_⟩))
    refine je_tup (ja_cons (je_op (je_ixT (je_ixL ?_))))
    refine je_var 7 rfl (je_int ⟨_, _, _, rfl, rfl, at0, ?_⟩)
    refine je_int ⟨_, _, .int ee, rfl, rfl, rfl, ?_⟩
    refine je_int (opd_addI (ja_nil ⟨by show 1 ≤ 1000000; decide, ?_⟩))
    refine opd_addT (by show 4 + 1 ≤ 1000000; decide) (ja_nil ⟨by show 1 ≤ 1000000; decide, ?_⟩)
    refine je_slice (je_var 7 rfl (jo_some (je_int ⟨_, rfl, jo_none ⟨True.intro, _, rfl, ?_⟩⟩)))
    rw [cut_tail]
    refine opd_addL (by show 1 + tl.length ≤ 1000000; omega) ?_
    refine ja_nil fun t => ⟨t, .lst (.tup [.str a, .int m, .str cc, .int ii, .int (ee + 1)] :: tl), rfl, rfl, ok_of (by rw [List.length_cons]; omega) isN _ (.inr rfl), fun xs hx => ⟨rfl, _, rfl, ?_⟩, fun hn => by rw [planS _ isN hnod] at hn; cases hn⟩
    obtain rfl : (D.tup [.str a, .int m, .str cc, .int ii, .int (ee + 1)] :: tl) = xs := by
      rw [planS _ isN hnod] at hx
      exact Option.some.inj hx
    refine opd_ownEq G.eq (hr.mono (by decide)) (.inl ⟨_, rfl, noEq⟩) (.inl ⟨_, rfl⟩) (.none ⟨_, _, rfl, rfl, hrok, .inl ⟨_, rfl, ⟨by rw [List.length_cons]; omega, isN⟩, ⟨_, rfl⟩, _, rfl, ite_f ?_ (jss_nil ⟨rfl, rfl⟩)⟩⟩)
    refine eqd_no hrow isN fun hp => ?_
    have := hp.count_eq (D.tup [.str a, .int m, .str cc, .int ii, .int ee])
    rw [List.count_cons_self, List.count_cons_of_ne (fun e => by simp at e; omega)] at this
    omega
  · rintro Γ M ⟨rfl, rfl⟩
    refine jss_one (js_for (passes_of rfl) (ji_range1 b.range (je_int ⟨_, rfl, by decide, by decide, ?_⟩)))
    refine ⟨fun j Γ M => ∃ (g5 g12 g13 : Option D) (c : Cell), Γ = [none, some (.raw (.ref p)), g2, g3, g4, g5, g6, some (.lst rows), some (.lst [.str "fine", .ins C (planIns C rows)]), g9, g10, g11, g12, g13] ∧ M = (p, c) :: rest ∧ PenIs (N0 + 99 - 10 * j) c, ⟨g5, g12, g13, c, rfl, rfl, hc⟩, ?_, ?_⟩
    · rintro j x Γ M hj ⟨g5, g12, g13, c, rfl, rfl, hc⟩
      have hj := (List.getElem?_eq_some_iff.mp hj).1
      rw [rngD_length] at hj
      have hj : j < 6 := hj
      refine jg_name 5 ?_ nd
      generalize some x = g5
      show JSs _ [none, some (.raw (.ref p)), g2, g3, g4, g5, g6, some (.lst rows), some (.lst [.str "fine", .ins C (planIns C rows)]), g9, g10, g11, g12, g13] ((p, c) :: rest) _ _
      refine jss_cons (js_set 12 (je_call G.gB (hr.mono (by decide)) (ja_cons (je_var 1 rfl (ja_cons (je_var 7 rfl (ja_nil ?_)))))) nd)
      refine .one 0 p c rfl ⟨p, rows, N0 + 99 - 10 * j - 6, c, rfl, hrl, hR.isRow, rfl, hc.less (by omega), fun bent c ho hlv hc c'' ec => ?_⟩
      cases ec
      show JSs _ [none, some (.raw (.ref p)), g2, g3, g4, g5, g6, some (.lst rows), some (.lst [.str "fine", .ins C (planIns C rows)]), g9, g10, g11, some bent, g13] ((p, c) :: rest) _ _
      have last : ∃ (g5' g12' g13' : Option D) (c' : Cell), [none, some (D.raw (.ref p)), g2, g3, g4, g5, g6, some (.lst rows), some (.lst [.str "fine", .ins C (planIns C rows)]), g9, g10, g11, some bent, some (dueOf bent)] = [none, some (.raw (.ref p)), g2, g3, g4, g5', g6, some (.lst rows), some (.lst [.str "fine", .ins C (planIns C rows)]), g9, g10, g11, g12', g13'] ∧ (p, c) :: rest = (p, c') :: rest ∧ PenIs (N0 + 99 - 10 * (j + 1)) c' := ⟨_, _, _, _, rfl, rfl, hc.less (by omega)⟩
      have hdue := lev_due hlv
      cases hp : planOf bent with
      | some xs =>
        have ed : dueOf bent = .lst [.str "fine"] := by
          unfold dueOf
          rw [hp]
          rfl
        have em : made C bent = .lst [.str "fine", .ins C (planIns C xs)] := by
          unfold made
          rw [hp]
        rw [ed] at hdue last
        refine jss_cons (js_set 13 (je_ifExp (jt_val (je_call G.gE (hr.mono (by decide)) (ja_cons (je_var 12 rfl (ja_nil (.none ⟨rfl, ⟨bent, rfl, ho⟩, _, rfl, ?_⟩))))))) nd)
        show if (planOf bent).isSome = true then _ else _
        rw [hp]
        refine ite_t rfl (je_lst (ja_cons (je_str (ja_nil ⟨by show 1 ≤ 1000000; decide, ?_⟩))))
        refine jss_one (js_if (jt_not (jt_val (je_call G.gA (hr.mono (by decide)) (ja_cons (je_slice (je_call G.gM (hr.mono (by decide)) (ja_cons (je_var 12 rfl (ja_nil (.none ⟨bent, rfl, rfl, ho, ?_⟩)))))))))))
        rw [em]
        refine jo_none (jo_some (je_len b.len (je_var 13 rfl ⟨_, .inl ⟨_, rfl, rfl⟩, _, rfl, True.intro, _, rfl, ?_⟩)))
        refine ja_cons (je_var 13 rfl (ja_nil (.none ⟨.lst [.str "fine"], rfl, rfl, hdue, _, rfl, ite_f rfl (jss_nil last)⟩)))
      | none =>
        have ed : dueOf bent = .lst [.str "row", .str "plan", bent] := by
          unfold dueOf
          rw [hp]
          rfl
        have em : made C bent = .lst [.str "row", .str "plan", bent] := by
          unfold made
          rw [hp]
        rw [ed] at hdue last
        refine jss_cons (js_set 13 (je_ifExp (jt_val (je_call G.gE (hr.mono (by decide)) (ja_cons (je_var 12 rfl (ja_nil (.none ⟨rfl, ⟨bent, rfl, ho⟩, _, rfl, ?_⟩))))))) nd)
        show if (planOf bent).isSome = true then _ else _
        rw [hp]
        refine ite_f rfl (je_lst (ja_cons (je_str (ja_cons (je_str (ja_cons (je_var 12 rfl (ja_nil ⟨by show 3 ≤ 1000000; decide, ?_⟩))))))))
        refine jss_one (js_if (jt_not (jt_val (je_call G.gA (hr.mono (by decide)) (ja_cons (je_slice (je_call G.gM (hr.mono (by decide)) (ja_cons (je_var 12 rfl (ja_nil (.none ⟨bent, rfl, rfl, ho, ?_⟩)))))))))))
        rw [em]
        refine jo_none (jo_some (je_len b.len (je_var 13 rfl ⟨_, .inl ⟨_, rfl, rfl⟩, _, rfl, True.intro, _, rfl, ?_⟩)))
        refine ja_cons (je_var 13 rfl (ja_nil (.none ⟨.lst [.str "row", .str "plan", bent], rfl, rfl, hdue, _, rfl, ite_f rfl (jss_nil last)⟩)))
    · rintro Γ M ⟨g5, g12, g13, c, rfl, rfl, hc⟩
      rw [rngD_length] at hc
      exact k g5 g12 g13 c (hc.less (by show N0 ≤ N0 + 99 - 10 * 6; omega))
end
end K27
end

section
set_option Elab.async false
set_option linter.all false
set_option maxRecDepth 100000
set_option maxHeartbeats 4000000
set_option pp.maxSteps 700
set_option hygiene false
open PySem PyProof.Rows L2 DL
namespace K27
open PySem PySem.Spec PyProof.Rows L2 DL
section
variable {P : Program} {w : World} {K : PySem.W.Frag} {mg : Str → Option Value} {base : Heap} {f : Addr} {fd : FuncData} {C CB : Addr}
local macro_rules | `(tactic| walk_at "jgo") => `(tactic| repeat' (first | ((with_reducible show JE _ _ _ _ _ _); first | ((with_reducible show JE _ _ _ (.Constant _ _ _) _ _); first | with_reducible refine je_int ?_ | with_reducible refine je_str ?_ | with_reducible refine je_bl ?_ | with_reducible refine je_non ?_) | ((with_reducible show JE _ _ _ (.Name _ _) _ _); first | ((with_reducible show JE _ _ _ (.Name (Str.ofString "script") _) _ _); refine je_var 0 rfl ?_) | ((with_reducible show JE _ _ _ (.Name (Str.ofString "pen") _) _ _); refine je_var 1 rfl ?_) | ((with_reducible show JE _ _ _ (.Name (Str.ofString "lap") _) _ _); refine je_var 2 rfl ?_) | ((with_reducible show JE _ _ _ (.Name (Str.ofString "names") _) _ _); refine je_var 3 rfl ?_) | ((with_reducible show JE _ _ _ (.Name (Str.ofString "plan") _) _ _); refine je_var 4 rfl ?_) | ((with_reducible show JE _ _ _ (.Name (Str.ofString "turn") _) _ _); refine je_var 5 rfl ?_) | ((with_reducible show JE _ _ _ (.Name (Str.ofString "key") _) _ _); refine je_var 6 rfl ?_) | ((with_reducible show JE _ _ _ (.Name (Str.ofString "rows") _) _ _); refine je_var 7 rfl ?_) | ((with_reducible show JE _ _ _ (.Name (Str.ofString "told") _) _ _); refine je_var 8 rfl ?_) | ((with_reducible show JE _ _ _ (.Name (Str.ofString "place") _) _ _); refine je_var 9 rfl ?_) | ((with_reducible show JE _ _ _ (.Name (Str.ofString "memory") _) _ _); refine je_var 10 rfl ?_) | ((with_reducible show JE _ _ _ (.Name (Str.ofString "is_there") _) _ _); refine je_var 11 rfl ?_) | ((with_reducible show JE _ _ _ (.Name (Str.ofString "bent") _) _ _); refine je_var 12 rfl ?_) | ((with_reducible show JE _ _ _ (.Name (Str.ofString "due") _) _ _); refine je_var 13 rfl ?_)) | ((with_reducible show JE _ _ _ (.Call (.Name _ _) _ _ _) _ _); first | ((with_reducible show JE _ _ _ (.Call (.Name (Str.ofString "isinstance") _) _ _ _) _ _); first | ((with_reducible show JE _ _ _ (.Call _ [_, .Name (Str.ofString "str") _] _ _) _ _); refine je_isi b.isinstance b.str boot_str (by decide) ?_) | ((with_reducible show JE _ _ _ (.Call _ [_, .Name (Str.ofString "int") _] _ _) _ _); refine je_isi b.isinstance b.int boot_int (by decide) ?_) | ((with_reducible show JE _ _ _ (.Call _ [_, .Name (Str.ofString "bool") _] _ _) _ _); refine je_isi b.isinstance b.bool boot_bool (by decide) ?_) | ((with_reducible show JE _ _ _ (.Call _ [_, .Name (Str.ofString "tuple") _] _ _) _ _); refine je_isi b.isinstance b.tuple boot_tuple (by decide) ?_) | ((with_reducible show JE _ _ _ (.Call _ [_, .Name (Str.ofString "list") _] _ _) _ _); refine je_isi b.isinstance b.list boot_list (by decide) ?_) | ((with_reducible show JE _ _ _ (.Call _ [_, .Name (Str.ofString "dict") _] _ _) _ _); refine je_isi b.isinstance b.dict boot_dict (by decide) ?_) | ((with_reducible show JE _ _ _ (.Call _ [_, .Tuple [.Name (Str.ofString "tuple") _, .Name (Str.ofString "list") _] _ _] _ _) _ _); refine je_isiP b.isinstance b.tuple boot_tuple b.list boot_list (by decide) (by decide) ?_)) | ((with_reducible show JE _ _ _ (.Call (.Name (Str.ofString "len") _) _ _ _) _ _); refine je_len b.len ?_) | ((with_reducible show JE _ _ _ (.Call (.Name (Str.ofString "all") _) _ _ _) _ _); refine je_callB b.all boot_all ?_) | ((with_reducible show JE _ _ _ (.Call (.Name (Str.ofString "any") _) _ _ _) _ _); refine je_callB b.any boot_any ?_) | ((with_reducible show JE _ _ _ (.Call (.Name (Str.ofString "sorted") _) _ _ _) _ _); refine je_callB b.sorted boot_sorted ?_) | ((with_reducible show JE _ _ _ (.Call (.Name (Str.ofString "min") _) _ _ _) _ _); refine je_callB b.min boot_min ?_) | ((with_reducible show JE _ _ _ (.Call (.Name (Str.ofString "list") _) _ _ _) _ _); refine je_callT b.list boot_list ?_) | ((with_reducible show JE _ _ _ (.Call (.Name (Str.ofString "tuple") _) _ _ _) _ _); refine je_callT b.tuple boot_tuple ?_) | ((with_reducible show JE _ _ _ (.Call (.Name (Str.ofString "str") _) _ _ _) _ _); refine je_callT b.str boot_str ?_) | ((with_reducible show JE _ _ _ (.Call (.Name (Str.ofString "int") _) _ _ _) _ _); refine je_callT b.int boot_int ?_) | ((with_reducible show JE _ _ _ (.Call (.Name (Str.ofString "_law_is_number") _) _ _ _) _ _); refine je_call G.gU (hr.mono (by decide)) ?_)) | with_reducible refine je_not ?_ | with_reducible refine je_one ?_ | with_reducible refine je_and ?_ | with_reducible refine je_or ?_ | ((with_reducible show JE _ _ _ (.Compare _ [_, _] _ _) _ _); refine je_chain ?_) | ((with_reducible show JE _ _ _ (.Compare _ [_] _ _) _ _); refine je_cmp ?_) | with_reducible refine je_op ?_ | with_reducible refine je_tup ?_ | with_reducible refine je_ifExp ?_) | ((with_reducible show Exists _); refine ⟨_, rfl, ?_⟩) | ((with_reducible show ite _ _ _); first | refine ite_t rfl ?_ | refine ite_f rfl ?_) | ((with_reducible show OpD _ _ _ _ _ _); first | with_reducible refine opd_addI ?_ | with_reducible refine opd_subI ?_ | with_reducible refine opd_ltI ?_ | with_reducible refine opd_leI ?_ | with_reducible refine opd_gtI ?_ | with_reducible refine opd_geI ?_ | with_reducible refine opd_eqI ?_ | with_reducible refine opd_neI ?_ | with_reducible refine opd_eqS ?_ | with_reducible refine opd_neS ?_ | with_reducible refine opd_eqB ?_ | with_reducible refine opd_neB ?_) | ((with_reducible show JA _ _ _ _ _ _); first | with_reducible refine ja_nil ?_ | refine ja_cons ?_) | ((with_reducible show JT _ _ _ _ _ _); first | with_reducible refine jt_not ?_ | ((with_reducible show JT _ _ _ (.BoolOp .Or _ _) _ _); with_reducible refine jt_w (jw_or ?_)) | ((with_reducible show JT _ _ _ (.BoolOp .And _ _) _ _); with_reducible refine jt_w (jw_and ?_)) | ((with_reducible show JT _ _ _ (.Compare _ [_, _] _ _) _ _); refine jt_chain ?_) | ((with_reducible show JT _ _ _ (.Compare _ [_] _ _) _ _); refine jt_cmp ?_) | ((with_reducible show JT _ _ _ (.Call _ _ _ _) _ _); refine jt_val ?_)) | ((with_reducible show JW _ _ _ _ _ _); first | with_reducible refine jw_or1 ?_ | with_reducible refine jw_and1 ?_ | with_reducible refine jw_or ?_ | with_reducible refine jw_and ?_) | ((with_reducible show JSs _ _ _ _ _); first | with_reducible refine jss_one ?_ | with_reducible refine jss_cons ?_ | with_reducible refine jss_nil ?_) | ((with_reducible show JS _ _ _ _ _); first | with_reducible refine js_if ?_ | with_reducible refine js_ret ?_ | with_reducible refine js_retN ?_ | ((with_reducible show JS _ _ _ (.Expr _ _) _); refine js_expr ?_) | ((with_reducible show JS _ _ _ (.Assign [.Name _ _] _ _) _); first | ((with_reducible show JS _ _ _ (.Assign [.Name (Str.ofString "script") _] _ _) _); refine js_set 0 ?_ nd) | ((with_reducible show JS _ _ _ (.Assign [.Name (Str.ofString "pen") _] _ _) _); refine js_set 1 ?_ nd) | ((with_reducible show JS _ _ _ (.Assign [.Name (Str.ofString "lap") _] _ _) _); refine js_set 2 ?_ nd) | ((with_reducible show JS _ _ _ (.Assign [.Name (Str.ofString "names") _] _ _) _); refine js_set 3 ?_ nd) | ((with_reducible show JS _ _ _ (.Assign [.Name (Str.ofString "plan") _] _ _) _); refine js_set 4 ?_ nd) | ((with_reducible show JS _ _ _ (.Assign [.Name (Str.ofString "turn") _] _ _) _); refine js_set 5 ?_ nd) | ((with_reducible show JS _ _ _ (.Assign [.Name (Str.ofString "key") _] _ _) _); refine js_set 6 ?_ nd) | ((with_reducible show JS _ _ _ (.Assign [.Name (Str.ofString "rows") _] _ _) _); refine js_set 7 ?_ nd) | ((with_reducible show JS _ _ _ (.Assign [.Name (Str.ofString "told") _] _ _) _); refine js_set 8 ?_ nd) | ((with_reducible show JS _ _ _ (.Assign [.Name (Str.ofString "place") _] _ _) _); refine js_set 9 ?_ nd) | ((with_reducible show JS _ _ _ (.Assign [.Name (Str.ofString "memory") _] _ _) _); refine js_set 10 ?_ nd) | ((with_reducible show JS _ _ _ (.Assign [.Name (Str.ofString "is_there") _] _ _) _); refine js_set 11 ?_ nd) | ((with_reducible show JS _ _ _ (.Assign [.Name (Str.ofString "bent") _] _ _) _); refine js_set 12 ?_ nd) | ((with_reducible show JS _ _ _ (.Assign [.Name (Str.ofString "due") _] _ _) _); refine js_set 13 ?_ nd))) | ((with_reducible show JG _ _ _ (.Name _ _) _ _); first | ((with_reducible show JG _ _ _ (.Name (Str.ofString "script") _) _ _); refine jg_name 0 ?_ nd) | ((with_reducible show JG _ _ _ (.Name (Str.ofString "pen") _) _ _); refine jg_name 1 ?_ nd) | ((with_reducible show JG _ _ _ (.Name (Str.ofString "lap") _) _ _); refine jg_name 2 ?_ nd) | ((with_reducible show JG _ _ _ (.Name (Str.ofString "names") _) _ _); refine jg_name 3 ?_ nd) | ((with_reducible show JG _ _ _ (.Name (Str.ofString "plan") _) _ _); refine jg_name 4 ?_ nd) | ((with_reducible show JG _ _ _ (.Name (Str.ofString "turn") _) _ _); refine jg_name 5 ?_ nd) | ((with_reducible show JG _ _ _ (.Name (Str.ofString "key") _) _ _); refine jg_name 6 ?_ nd) | ((with_reducible show JG _ _ _ (.Name (Str.ofString "rows") _) _ _); refine jg_name 7 ?_ nd) | ((with_reducible show JG _ _ _ (.Name (Str.ofString "told") _) _ _); refine jg_name 8 ?_ nd) | ((with_reducible show JG _ _ _ (.Name (Str.ofString "place") _) _ _); refine jg_name 9 ?_ nd) | ((with_reducible show JG _ _ _ (.Name (Str.ofString "memory") _) _ _); refine jg_name 10 ?_ nd) | ((with_reducible show JG _ _ _ (.Name (Str.ofString "is_there") _) _ _); refine jg_name 11 ?_ nd) | ((with_reducible show JG _ _ _ (.Name (Str.ofString "bent") _) _ _); refine jg_name 12 ?_ nd) | ((with_reducible show JG _ _ _ (.Name (Str.ofString "due") _) _ _); refine jg_name 13 ?_ nd))))
theorem law_rest {cdv : Value} {A : Around} {outer : List Env} {s : Shared} {H : Hp} {E : XK} (b : Bn mg) (G : Gs P w K mg base C CB) (hr : Room 9 (A.deeper (envOfC "law" (defScope sLaw) s.heap.objs.size f cdv))) {p : Addr} {c : Cell} (hc : PenIs 1000000 c) :
    JSs (cxOf (L2.CX P w) P w K mg base NL "law" (defScope sLaw) f cdv A outer s H E) [none, some (.raw (.ref p)), none, none, none, none, none, none, none, none, none, none, none, none] [(p, c)] (defBody sLaw).tail { nx := fun _ _ => False, rt := fun d _ => d = .bl true } := by
  have hu := hr.units
  have nd := scLaw.nd
  refine jss_cons (js_for (passes_of rfl) (ji_range1 b.range (je_int ⟨_, rfl, by decide, by decide, ?_⟩)))
  refine ⟨fun i Γ M => ∃ (g2 g3 g4 g5 g6 g7 g8 g9 g10 g11 g12 g13 : Option D) (c : Cell) (rest : Mem), Γ = [none, some (.raw (.ref p)), g2, g3, g4, g5, g6, g7, g8, g9, g10, g11, g12, g13] ∧ M = (p, c) :: rest ∧ PenIs (1000 * (3 - i)) c, ⟨_, _, _, _, _, _, _, _, _, _, _, _, c, [], rfl, rfl, hc.less (by decide)⟩, ?_, ?_⟩
  · rintro i x Γ M hi ⟨g2, g3, g4, g5, g6, g7, g8, g9, g10, g11, g12, g13, c, rest, rfl, rfl, hc⟩
    have hi3 := (List.getElem?_eq_some_iff.mp hi).1
    rw [rngD_length] at hi3
    have hi3 : i < 3 := hi3
    generalize hN : 1000 * (3 - (i + 1)) = N0
    have hc : PenIs (N0 + 1000) c := hc.less (by omega)
    clear hi
    refine jg_name 2 ?_ nd
    generalize some x = g2
    show JSs _ [none, some (.raw (.ref p)), g2, g3, g4, g5, g6, g7, g8, g9, g10, g11, g12, g13] ((p, c) :: rest) _ _
    -- names, plan
    refine jss_cons (js_par 3 4 (ja_cons ?_) nd)
    refine je_call G.gN (hr.mono (by decide)) (ja_cons (je_var 1 rfl (ja_cons (je_int (ja_nil ?_)))))
    refine use_names (m := 4) (n := N0 + 900) 0 rfl (hc.less (by omega)) (by decide) fun names c zs hz1 hz2 hz3 hc => ?_
    have hnm : ∀ y ∈ names, isName y = true := fun y hy => by
      obtain ⟨z, hz, rfl⟩ := List.mem_map.mp (hz3.mem_iff.mp hy)
      obtain ⟨j, hj⟩ := List.getElem?_of_mem hz
      have := (List.getElem?_eq_some_iff.mp hj).1
      exact name_of (by omega) (hz2 j z hj)
    have hnl : names.length = 4 := by rw [hz3.length_eq, List.length_map, hz1]
    have hn0 : names ≠ [] := fun e => by rw [e] at hnl; cases hnl
    refine ja_cons (je_dTC fun t => ja_nil ⟨_, _, rfl, ?_⟩)
    show JSs _ [none, some (.raw (.ref p)), g2, some (.lst names), some (.raw (.ref t)), g5, g6, g7, g8, g9, g10, g11, g12, g13] ((p, c) :: (rest ++ [(t, .dT [])])) _ _
    -- the plan is filled
    refine jss_cut (fun Γ M => ∃ (g5 g6 : Option D) (c : Cell) (kvs : List (D × D)), Γ = [none, some (.raw (.ref p)), g2, some (.lst names), some (.raw (.ref t)), g5, g6, g7, g8, g9, g10, g11, g12, g13] ∧ M = (p, c) :: (rest ++ [(t, .dT kvs)]) ∧ PlanKv kvs ∧ PenIs (N0 + 300) c) (js_for (passes_of rfl) (ji_range1 b.range ?_)) ?_
    · refine je_call G.gD (hr.mono (by decide)) (ja_cons (je_var 1 rfl (ja_cons (je_int (ja_nil ?_)))))
      refine use_draw (n := N0 + 800) 0 rfl (hc.less (by omega)) (by decide) (by decide) fun many c m0 m1 hc => ⟨_, rfl, by omega, by omega, ?_⟩
      refine ⟨fun j Γ M => ∃ (g5 g6 : Option D) (c : Cell) (kvs : List (D × D)), Γ = [none, some (.raw (.ref p)), g2, some (.lst names), some (.raw (.ref t)), g5, g6, g7, g8, g9, g10, g11, g12, g13] ∧ M = (p, c) :: (rest ++ [(t, .dT kvs)]) ∧ PlanKv kvs ∧ kvs.length ≤ j ∧ PenIs (N0 + 800 - 10 * j) c, ⟨g5, g6, c, [], rfl, rfl, plan_nil, Nat.le_refl _, hc⟩, ?_, ?_⟩
      · rintro j x Γ M hj ⟨g5, g6, c, kvs, rfl, rfl, hp, hl, hc⟩
        have hj := (List.getElem?_eq_some_iff.mp hj).1
        rw [rngD_length] at hj
        have hj : j < 13 := by omega
        refine jg_name 5 ?_ nd
        generalize some x = g5
        show JSs _ [none, some (.raw (.ref p)), g2, some (.lst names), some (.raw (.ref t)), g5, g6, g7, g8, g9, g10, g11, g12, g13] ((p, c) :: (rest ++ [(t, .dT kvs)])) _ _
        -- key
        refine jss_cons (js_set 6 (je_tup (ja_cons ?_)) nd)
        refine je_call G.gK (hr.mono (by decide)) (ja_cons (je_var 1 rfl (ja_cons (je_var 3 rfl (ja_nil ?_)))))
        refine use_pick (n := N0 + 800 - 10 * j - 1) 0 rfl (hc.less (by omega)) hn0 (by omega) fun a c ha hc => ?_
        refine ja_cons (je_call G.gK (hr.mono (by decide)) (ja_cons (je_var 1 rfl (ja_cons (je_lst ?_)))))
        walk_at "jgo"
        refine opd_powI ⟨by decide, by decide, by decide⟩ ?_
        walk_at "jgo"
        refine je_call G.gD (hr.mono (by decide)) (ja_cons (je_var 1 rfl (ja_cons (je_int (ja_nil ?_)))))
        refine use_draw (n := N0 + 800 - 10 * j - 2) 0 rfl (hc.less (by omega)) (by decide) (by decide) fun dr c d0 d1 hc => ?_
        walk_at "jgo"
        refine ⟨by show 5 ≤ 1000000; decide, ja_nil (use_pick (n := N0 + 800 - 10 * j - 3) 0 rfl (hc.less (by omega)) (List.cons_ne_nil _ _) (by show 5 ≤ 1000000; decide) fun m c hm hc => ?_)⟩
        walk_at "jgo"
        refine ⟨by show 2 ≤ 1000000; decide, ?_⟩
        obtain ⟨a, rfl⟩ := isName_str (hnm a ha)
        have hmn : ∃ i, m = .int i ∧ num (.int i) = true := by
          simp only [List.mem_cons, List.not_mem_nil, or_false] at hm
          rcases hm with rfl | rfl | rfl | rfl | rfl
          · exact ⟨_, rfl, num_le (by decide) (by decide)⟩
          · exact ⟨_, rfl, num_le (by decide) (by decide)⟩
          · exact ⟨_, rfl, num_le (by decide) (by decide)⟩
          · exact ⟨_, rfl, num_le (by decide) (by decide)⟩
          · exact ⟨_, rfl, num_le d0 (by have : (20 : Int) ≤ MOST := by decide
                                         omega)⟩
        obtain ⟨m, rfl, hmn⟩ := hmn
        show JSs _ [none, some (.raw (.ref p)), g2, some (.lst names), some (.raw (.ref t)), g5, some (.tup [.str a, .int m]), g7, g8, g9, g10, g11, g12, g13] ((p, c) :: (rest ++ [(t, .dT kvs)])) _ _
        -- plan[key]
        refine jss_one (js_dputT (rest.length + 1) (u1 hr) (je_tup (ja_cons ?_)))
        refine je_call G.gK (hr.mono (by decide)) (ja_cons (je_var 1 rfl (ja_cons (je_var 3 rfl (ja_nil ?_)))))
        refine use_pick (n := N0 + 800 - 10 * j - 4) 0 rfl (hc.less (by omega)) hn0 (by omega) fun c' c hc' hc => ?_
        refine ja_cons (je_call G.gK (hr.mono (by decide)) (ja_cons (je_var 1 rfl (ja_cons (je_lst ?_)))))
        walk_at "jgo"
        refine opd_powI ⟨by decide, by decide, by decide⟩ (opd_mulI (.inl ⟨by decide, by decide⟩) ?_)
        walk_at "jgo"
        refine ⟨by show 3 ≤ 1000000; decide, ja_nil (use_pick (n := N0 + 800 - 10 * j - 5) 0 rfl (hc.less (by omega)) (List.cons_ne_nil _ _) (by show 3 ≤ 1000000; decide) fun i' c hi' hc => ?_)⟩
        refine ja_cons (je_call G.gD (hr.mono (by decide)) (ja_cons (je_var 1 rfl (ja_cons (je_int (ja_nil ?_))))))
        refine use_draw (n := N0 + 800 - 10 * j - 6) 0 rfl (hc.less (by omega)) (by decide) (by decide) fun e' c e0 e1 hc => ?_
        obtain ⟨c', rfl⟩ := isName_str (hnm c' hc')
        have hin : ∃ i, i' = .int i ∧ num (.int i) = true := by
          simp only [List.mem_cons, List.not_mem_nil, or_false] at hi'
          rcases hi' with rfl | rfl | rfl
          · exact ⟨_, rfl, num_le (by decide) (by decide)⟩
          · exact ⟨_, rfl, num_le (by decide) (by decide)⟩
          · exact ⟨_, rfl, num_le (by decide) (by decide)⟩
        obtain ⟨i', rfl, hin⟩ := hin
        have he : num (.int e') = true := num_le e0 (by have : (20 : Int) ≤ MOST := by decide
                                                        omega)
        have hrow : isRow (.tup [.str a, .int m, .str c', .int i', .int e']) = true := by
          show (isName (.str a) && isName (.str c') && (num (.int m) && (num (.int i') && num (.int e')))) = true
          rw [hnm _ ha, hnm _ hc', hmn, hin, he]
          rfl
        refine ja_nil ⟨by show 3 ≤ 1000000; decide, je_var 4 rfl (je_var 6 rfl ⟨t, kvs, [.inr a, .inl m], rfl, mk_at, rfl, List.cons_ne_nil _ _, by omega, ?_⟩)⟩
        refine ⟨g5, _, c, _, rfl, mk_set, plan_put hp (by omega) hrow (by omega), ?_, hc.less (by omega)⟩
        have := ptD_length kvs (.tup [.str a, .int m]) (.tup [.str c', .int i', .int e'])
        omega
      · rintro Γ M ⟨g5, g6, c, kvs, rfl, rfl, hp, hl, hc⟩
        rw [rngD_length] at hl hc
        exact ⟨g5, g6, c, kvs, rfl, rfl, hp, hc.less (by omega)⟩
    clear hc c g5 g6
    rintro Γ M ⟨g5, g6, c, kvs, rfl, rfl, hp, hc⟩
    -- rows
    refine jss_cons (js_set 7 ?_ nd)
    refine je_call G.gS (hr.mono (by decide)) (ja_cons (je_var 1 rfl (ja_cons ?_)))
    refine je_call G.gR (hr.mono (by decide)) (ja_cons (je_var 4 rfl (ja_nil ?_)))
    refine .one (rest.length + 1) t (.dT kvs) mk_at ⟨t, kvs, rfl, rfl, hp, fun rows0 hr0 c' ec => ?_⟩
    cases ec
    rw [mk_set]
    have hlen0 : rows0.length ≤ 100 := RowsOf.len ⟨hp, hr0⟩
    refine ja_nil (use_shuf (n := N0 + 100) 0 rfl (hc.less (by omega)) (by omega) fun rows c hrp hc => ?_)
    have hR : RowsOf kvs rows := ⟨hp, hrp.trans hr0⟩
    clear hr0 hlen0 hrp rows0
    show JSs _ [none, some (.raw (.ref p)), g2, some (.lst names), some (.raw (.ref t)), g5, g6, some (.lst rows), g8, g9, g10, g11, g12, g13] ((p, c) :: (rest ++ [(t, .dT kvs)])) _ _
    have hok : planOf (.lst rows) = some rows := by
      rw [planOf_of (.inr rfl), plan_ok hR.isRow hR.nodup]
      rfl
    have hokT : planOf (.tup rows) = some rows := by
      rw [planOf_of (.inl rfl), plan_ok hR.isRow hR.nodup]
      rfl
    have hrl := hR.len
    have hro := ok_of (rows := rows) (by omega) hR.isRow
    have hrok : rowsOk rows := ⟨by omega, hR.isRow⟩
    -- told
    refine jss_cons (js_set 8 ?_ nd)
    refine je_call G.gM (hr.mono (by decide)) (ja_cons ?_)
    refine je_call G.gK (hr.mono (by decide)) (ja_cons (je_var 1 rfl (ja_cons (je_lst ?_))))
    refine ja_cons (je_callT b.list boot_list (ja_cons (je_var 7 rfl (ja_nil (cd_list ?_)))))
    refine ja_cons (je_callT b.tuple boot_tuple (ja_cons (je_var 7 rfl (ja_nil (cd_tuple ?_)))))
    refine ja_nil ⟨by show 2 ≤ 1000000; decide, ja_nil (use_pick (n := N0 + 99) 0 rfl hc (List.cons_ne_nil _ _) (by show 2 ≤ 1000000; decide) fun x c hx hc => ?_)⟩
    have hx' : x = .tup rows ∨ x = .lst rows := by
      simp only [List.mem_cons, List.not_mem_nil, or_false] at hx
      exact hx.symm
    have hpx : made C x = .lst [.str "fine", .ins C (planIns C rows)] := by
      unfold made
      rcases hx' with rfl | rfl
      · rw [hokT]
      · rw [hok]
    refine ja_nil (.none ⟨x, rfl, rfl, hro x hx', ?_⟩)
    rw [hpx]
    clear hx hx' hpx x
    show JSs _ [none, some (.raw (.ref p)), g2, some (.lst names), some (.raw (.ref t)), g5, g6, some (.lst rows), some (.lst [.str "fine", .ins C (planIns C rows)]), g9, g10, g11, g12, g13] ((p, c) :: (rest ++ [(t, .dT kvs)])) _ _
    generalize hM : ((p, c) :: (rest ++ [(t, Cell.dT kvs)])) = M
    have hMt : M[rest.length + 1]? = some (t, .dT kvs) := by rw [← hM]; exact mk_at
    have noEq : (planIns C rows).lookup ("__eq__" : Str) = none := planIns_no C rows _ (by decide) (by decide)
    have noLen : (planIns C rows).lookup ("__len__" : Str) = none := planIns_no C rows _ (by decide) (by decide)
    have noRat : (planIns C rows).lookup ("row_at" : Str) = none := planIns_no C rows _ (by decide) (by decide)
    obtain ⟨q1, q2, q3, q4⟩ := rows_sort hR.isRow
    -- what was told
    refine jss_cons (js_if ?_)
    refine jt_w (jw_or (jt_cmp (je_ixL (je_var 8 rfl (je_int ⟨_, _, .str "fine", rfl, rfl, rfl, je_str (opd_neS ⟨_, rfl, ite_f ?_ ?_⟩)⟩)))))
    · rw [decide_eq_true rfl]; rfl
    refine jw_or (jt_not (jt_val ?_))
    refine je_call G.gA (hr.mono (by decide)) (ja_cons (je_fld (je_ixL (je_var 8 rfl (je_int ⟨_, _, .ins C (planIns C rows), rfl, rfl, rfl, C, _, _, rfl, G.eq.cl, G.n1, planIns_rows C rows, ?_⟩)))))
    refine ja_cons (je_callT b.tuple boot_tuple (ja_cons ?_))
    refine je_callB b.sorted boot_sorted (ja_cons (je_var 7 rfl (ja_nil (cd_sorted hu q1 q2 q3 q4 (ja_nil (cd_tuple (ja_nil ?_)))))))
    refine .none ⟨_, rfl, rfl, lev_rows hrok, _, rfl, ite_f rfl ?_⟩
    refine jw_or (jt_cmp ?_)
    refine je_callB b.len boot_len (ja_cons (je_ixL (je_var 8 rfl (je_int ⟨_, _, .ins C (planIns C rows), rfl, rfl, rfl, ja_nil ?_⟩))))
    refine cd_ownLen G.len (hr.mono (by decide)) (.inl ⟨_, rfl, noLen⟩) ⟨rows, rfl, rfl, ⟨_, rfl, by omega, by omega⟩, ?_⟩
    refine je_len b.len (je_var 7 rfl ⟨_, .inl ⟨rows, rfl, rfl⟩, opd_neI ⟨_, rfl, ite_f ?_ ?_⟩⟩)
    · rw [decide_eq_true rfl]; rfl
    refine jw_or1 (jt_cmp (je_ixL (je_var 8 rfl (je_int ⟨_, _, .ins C (planIns C rows), rfl, rfl, rfl, ?_⟩))))
    refine je_callT b.tuple boot_tuple (ja_cons ?_)
    refine je_callB b.sorted boot_sorted (ja_cons (je_var 7 rfl (ja_nil (cd_sorted hu q1 q2 q3 q4 (ja_nil (cd_tuple ?_))))))
    refine opd_ownEq G.eq (hr.mono (by decide)) (.inl ⟨_, rfl, noEq⟩) (.inr ⟨⟨_, rfl⟩, G.nf⟩) (.none ⟨rows, _, rfl, rfl, hrok, .inr ⟨_, rfl, ⟨_, rfl⟩, _, rfl, ite_f rfl (jss_nil ?_)⟩⟩)
    -- every place, every memory
    refine jss_cut (fun Γ M2 => ∃ g9 g10 g11, Γ = [none, some (.raw (.ref p)), g2, some (.lst names), some (.raw (.ref t)), g5, g6, some (.lst rows), some (.lst [.str "fine", .ins C (planIns C rows)]), g9, g10, g11, g12, g13] ∧ M2 = M) (js_for (passes_of rfl) (ji_list (je_op (je_var 3 rfl (je_lst ?_))))) ?_
    · walk_at "jgo"
      refine ⟨by decide, opd_addL (by show _ + 3 ≤ 1000000; omega) ⟨_, rfl, ?_⟩⟩
      refine ⟨fun i Γ M2 => ∃ g9 g10 g11, Γ = [none, some (.raw (.ref p)), g2, some (.lst names), some (.raw (.ref t)), g5, g6, some (.lst rows), some (.lst [.str "fine", .ins C (planIns C rows)]), g9, g10, g11, g12, g13] ∧ M2 = M, ⟨g9, g10, g11, rfl, rfl⟩, ?_, fun Γ M2 h => h⟩
      rintro i place Γ M2 hi ⟨g9, g10, g11, rfl, rfl⟩
      have hpl : (isName place = isT "str" place) ∧ okv place := by
        rcases List.mem_append.mp (List.mem_of_getElem? hi) with h | h
        · refine ⟨?_, (flat_name (hnm _ h)).1⟩
          obtain ⟨z, rfl⟩ := isName_str (hnm _ h)
          exact hnm _ h
        · simp only [List.mem_cons, List.not_mem_nil, or_false] at h
          rcases h with rfl | rfl | rfl
          · exact ⟨by rw [nm_eq]; decide +kernel, (flat_str (by decide +kernel) (by decide +kernel)).1⟩
          · exact ⟨rfl, flat_non.1⟩
          · exact ⟨rfl, flat_int.1⟩
      obtain ⟨hpn, hpo⟩ := hpl
      clear hi
      refine jg_name 9 ?_ nd
      show JSs _ [none, some (.raw (.ref p)), g2, some (.lst names), some (.raw (.ref t)), g5, g6, some (.lst rows), some (.lst [.str "fine", .ins C (planIns C rows)]), some place, g10, g11, g12, g13] M2 _ _
      refine jss_one (js_for (passes_of rfl) (ji_list (je_lst ?_)))
      walk_at "jgo"
      refine opd_powI ⟨by decide, by decide, by decide⟩ ?_
      walk_at "jgo"
      refine je_neg (je_int ⟨_, rfl, ?_⟩)
      walk_at "jgo"
      refine ⟨by decide, _, rfl, ?_⟩
      refine ⟨fun i Γ M3 => ∃ g10 g11, Γ = [none, some (.raw (.ref p)), g2, some (.lst names), some (.raw (.ref t)), g5, g6, some (.lst rows), some (.lst [.str "fine", .ins C (planIns C rows)]), some place, g10, g11, g12, g13] ∧ M3 = M2, ⟨g10, g11, rfl, rfl⟩, ?_, fun Γ M3 ⟨g10, g11, h1, h2⟩ => ⟨_, g10, g11, h1, h2⟩⟩
      rintro i mem Γ M3 hi ⟨g10, g11, rfl, rfl⟩
      have hmm : (isWhole mem (.int 0) .non = num mem) ∧ okv mem := by
        have h := List.mem_of_getElem? hi
        simp only [List.mem_cons, List.not_mem_nil, or_false] at h
        rcases h with rfl | rfl | rfl | rfl | rfl | rfl | rfl
        · exact ⟨(num_le (by decide) (by decide)).symm, flat_int.1⟩
        · exact ⟨(num_le (by decide) (by decide)).symm, flat_int.1⟩
        · exact ⟨rfl, flat_bl.1⟩
        · exact ⟨rfl, flat_non.1⟩
        · exact ⟨(num_le (by decide) (by decide)).symm, flat_int.1⟩
        · exact ⟨rfl, (flat_str (by decide +kernel) (by decide +kernel)).1⟩
        · exact ⟨rfl, flat_int.1⟩
      obtain ⟨hmw, hmo⟩ := hmm
      clear hi
      refine jg_name 10 ?_ nd
      show JSs _ [none, some (.raw (.ref p)), g2, some (.lst names), some (.raw (.ref t)), g5, g6, some (.lst rows), some (.lst [.str "fine", .ins C (planIns C rows)]), some place, some mem, g11, g12, g13] M3 _ _
      have hB := at_eq hR hpn hmw
      have dic : ∀ a i, place = .str a → mem = .int i → ∀ z, lkD kvs (.tup [place, mem]) = z → DicHas M3 (.raw (.ref t)) (.tup [place, mem]) z := fun a i e1 e2 z hz => by
        subst e1 e2
        exact .inr ⟨kvs, [.inr a, .inl i], .inr ⟨_, t, rfl, hMt⟩, List.cons_ne_nil _ _, rfl, hz⟩
      have strOf : isT "str" place = true → ∃ a, place = .str a := fun h => by
        rw [← hpn] at h
        exact isName_str h
      have intOf : num mem = true → ∃ i, mem = .int i := fun h => by
        obtain ⟨i, e, _⟩ := num_int h
        exact ⟨i, e⟩
      refine jss_cut (fun Γ M4 => Γ = [none, some (.raw (.ref p)), g2, some (.lst names), some (.raw (.ref t)), g5, g6, some (.lst rows), some (.lst [.str "fine", .ins C (planIns C rows)]), some place, some mem, some (.bl ((num mem && isT "str" place) && (lkD kvs (.tup [place, mem])).isSome)), g12, g13] ∧ M4 = M3) (js_set 11 ?_ nd) ?_
      · refine je_and (je_call G.gU (hr.mono (by decide)) (ja_cons (je_var 10 rfl (ja_nil (use_num hmo ⟨_, rfl, ite_2 (fun c1 => ?_) fun c1 => ?_⟩)))))
        · obtain ⟨n, hn⟩ := hpo.1
          refine je_and (je_isi b.isinstance b.str boot_str (by decide) (je_var 9 rfl ⟨n, hn, _, rfl, ite_2 (fun c2 => ?_) fun c2 => ?_⟩))
          · obtain ⟨a, ea⟩ := strOf c2
            obtain ⟨i, ei⟩ := intOf c1
            refine je_one (je_in_dic (u1 hr) (je_tup (ja_cons (je_var 9 rfl (ja_cons (je_var 10 rfl (ja_nil ⟨by show 2 ≤ 1000000; decide, je_var 4 rfl ⟨_, dic a i ea ei _ rfl, ?_⟩⟩)))))))
            rw [c1, c2]
            exact ⟨rfl, rfl⟩
          · rw [c1, c2]
            exact ⟨rfl, rfl⟩
        · rw [c1]
          exact ⟨rfl, rfl⟩
      rintro Γ M4 ⟨rfl, rfl⟩
      refine jss_one (js_if (jt_not (jt_val ?_)))
      refine je_call G.gA (hr.mono (by decide)) (ja_cons (je_meth G.rat (hr.mono (by decide)) (je_ixL (je_var 8 rfl (je_int ⟨_, _, .ins C (planIns C rows), rfl, rfl, rfl, .inl ⟨_, rfl, noRat⟩, ?_⟩)))))
      refine ja_cons (je_var 9 rfl (ja_cons (je_var 10 rfl (ja_nil (.none ⟨rows, place, mem, rfl, rfl, hrok, hpo, hmo, ?_⟩)))))
      refine ja_cons (je_ifExp (jt_val (je_var 11 rfl ⟨_, rfl, ?_⟩)))
      refine ite_2 (fun e => ?_) fun e => ?_
      · rw [if_pos e] at hB
        simp only [Bool.and_eq_true] at e
        obtain ⟨⟨e1, e2⟩, e3⟩ := e
        obtain ⟨a, ea⟩ := strOf e2
        obtain ⟨i, ei⟩ := intOf e1
        obtain ⟨v, hv⟩ := Option.isSome_iff_exists.mp e3
        rw [hv] at hB
        refine je_dget (u1 hr) (je_var 4 rfl (je_tup (ja_cons (je_var 9 rfl (ja_cons (je_var 10 rfl (ja_nil ⟨by show 2 ≤ 1000000; decide, v, dic a i ea ei _ hv, ?_⟩)))))))
        have hB : v = rowAt rows place mem := hB
        rw [hB]
        exact ja_nil (.none ⟨_, rfl, rfl, lev_at hR _ _, _, rfl, ite_f rfl (jss_nil ⟨_, _, rfl, rfl⟩)⟩)
      · rw [if_neg (by rw [e]; decide)] at hB
        refine je_non ?_
        rw [← hB]
        exact ja_nil (.none ⟨_, rfl, rfl, True.intro, _, rfl, ite_f rfl (jss_nil ⟨_, _, rfl, rfl⟩)⟩)
    clear g9 g10 g11
    rintro Γ M2 ⟨g9, g10, g11, rfl, rfl⟩
    rw [← hM]
    exact law_tail (i := 0) b G hr hc hR fun g5 g12 g13 c hc => ⟨_, _, _, _, _, _, _, _, _, _, _, _, c, _, rfl, rfl, by rw [hN]; exact hc⟩
  · rintro Γ M ⟨g2, g3, g4, g5, g6, g7, g8, g9, g10, g11, g12, g13, c, rest, rfl, rfl, hc⟩
    have p0 : planOf (.tup []) = some [] := by
      rw [planOf_of (.inl rfl), plan_ok (fun r h => by simp at h) (by simp)]
      rfl
    have p1 : planOf (.lst []) = some [] := by
      rw [planOf_of (.inr rfl), plan_ok (fun r h => by simp at h) (by simp)]
      rfl
    have ok0 := ok_of (rows := []) (by decide) (fun r h => by simp at h)
    have no0 : (planIns C []).lookup ("__eq__" : Str) = none := planIns_no C [] _ (by decide) (by decide)
    have ro0 : rowsOk [] := ⟨by decide, fun r h => by simp at h⟩
    refine jss_one (js_ret (je_cmp ?_))
    refine je_make G.gP (hr.mono (by decide)) (ja_cons (je_tup (ja_nil ⟨by decide, ?_⟩)))
    refine ja_nil fun t => ⟨t, .tup [], rfl, rfl, ok0 _ (.inl rfl), fun xs hx => ⟨rfl, _, rfl, ?_⟩, fun hn => by rw [p0] at hn; cases hn⟩
    obtain rfl : [] = xs := by
      rw [p0] at hx
      exact Option.some.inj hx
    refine je_make G.gP (hr.mono (by decide)) (ja_cons (je_lst (ja_nil ⟨by decide, ?_⟩)))
    refine ja_nil fun t => ⟨t, .lst [], rfl, rfl, ok0 _ (.inr rfl), fun xs hx => ⟨rfl, _, rfl, ?_⟩, fun hn => by rw [p1] at hn; cases hn⟩
    obtain rfl : [] = xs := by
      rw [p1] at hx
      exact Option.some.inj hx
    refine opd_ownEq G.eq (hr.mono (by decide)) (.inl ⟨_, rfl, no0⟩) (.inl ⟨_, rfl⟩) (.none ⟨_, _, rfl, rfl, ro0, .inl ⟨_, rfl, ro0, ⟨_, rfl⟩, ?_⟩⟩)
    rw [eqd_selfs (sort_rows ro0.2)]
end
end K27
end

section
set_option Elab.async false
set_option linter.all false
set_option maxRecDepth 100000
set_option maxHeartbeats 4000000
set_option pp.maxSteps 700
set_option hygiene false
open PySem PyProof.Rows L2 DL
namespace K27
open PySem PySem.Spec PyProof.Rows L2 DL
def spLaw (K : PySem.W.Frag) : Sp := fun vs H Q _ => ∃ (a : Addr) (ns : List Int), vs = [.ref a] ∧ SqL K H a (ns.map V.int) ∧ ∀ H' : Hp, Q (.bl true) H'
theorem ints_is {K : PySem.W.Frag} {H : Hp} : ∀ ns : List Int, IsA K H (ns.map V.int) (ns.map D.int)
  | [] => .nil
  | n :: ns => .cons (.int n) (ints_is ns)
section
variable {P : Program} {w : World} {K : PySem.W.Frag} {mg : Str → Option Value} {base : Heap} {f fP : Addr} {fd fdP : FuncData} {C CB : Addr}
theorem pen_sr {Hn H' : Hp} {p c : Addr} {ns : List Int} {fo : Int} {σ : L2.St} (hnp : Hn p = none) (hsub : Same Hn H') (hc : Hn c = some (.lst (ns.map V.int))) (hp : H' p = some (.dK (penK c fo))) (hs : σ[1]? = some (some (.ref p))) :
    SR K ⟨Hn, H', [p]⟩ [(p, .dK (penD ns 0 0 0 fo))] [none, some (.raw (.ref p)), none, none, none, none, none, none, none, none, none, none, none, none] Hn H' σ := by
  refine ⟨⟨hsub, fun q hq => ?_, by simp⟩, Step.refl, fun q hq => .inl ?_, List.prefix_refl _, fun i d hi => ?_⟩
  · rw [List.mem_singleton.mp hq]
    exact ⟨hnp, penK c fo, hp, .cons (.lst hc (ints_is ns)) (.cons (.int _) (.cons (.int _) (.cons (.int _) (.cons (.int _) .nil))))⟩
  · rw [List.mem_singleton.mp hq]
    exact List.mem_cons_self
  · have h1 : i = 1 := by
      match i, hi with
      | 0, hi => cases hi
      | 1, _ => rfl
      | n + 2, hi =>
        have h2 : (List.replicate 12 (none : Option D))[n]? = some (some d) := hi
        rw [List.getElem?_replicate] at h2
        split at h2 <;> cases h2
    subst h1
    cases hi
    exact ⟨_, hs, .raw _⟩
theorem ok_law (F : Fun K "law" "law" sLaw f fd) (b : Bn mg) (G : Gs P w K mg base C CB) (GP : FnOk P w K mg base (L2.CX P w) 1 fP fdP ["script"] (spPen K)) (hm : mg "_law_pen" = some (.ref fP)) (hk : PySem.W.keepIn K (.ref fP) = true) (hbi : Binds K fdP ["script"] []) :
    FnOk P w K mg base (L2.CX P w) 10 f fd ["script"] (spLaw K) := by
  refine F.okX scLaw (fun vs H Q E h => ?_) (fun cdv A outer s H vs Q E hr h => ?_)
  · obtain ⟨a, ns, rfl, _⟩ := h
    rfl
  · obtain ⟨a, ns, rfl, hS, k⟩ := h
    refine ⟨_, pss_cons (ps_set (i := 1) scLaw.nd rfl (Or.inl rfl) (pe_callSD (E := fun _ _ _ _ => False) GP (hr.mono (by decide)) rfl hm hk hbi .nil (fun σ pins H s e s' _ h => by
      obtain ⟨_, _, _, _, _, _, _, _, _, _, _, _, z⟩ := h
      exact z.elim) (pa_cons (pe_var (i := 0) rfl (Or.inl rfl) (by decide) (by decide)) pa_nil))) pss_run, ?_⟩
    refine ⟨_, rfl, a, ns, rfl, hS, fun H' p c fo f0 f1 hp hc sm h1 h2 => ?_⟩
    have npc : p ≠ c := fun e => by
      rw [e, h2] at h1
      cases h1
    refine law_rest b G hr ⟨ns, 0, 0, 0, fo, rfl, by decide, by decide, by decide, f0, f1, by decide⟩ ⟨upd H c (.lst (ns.map V.int)), H', [p]⟩ (upd H c (.lst (ns.map V.int))) H' _ (pen_sr (by rw [upd_ne npc]; exact hp) (fun x o e => ?_) upd_same h1 rfl) _ ⟨fun Γ' M' Hn' H' σ' p S => p.elim, fun Γ' M' Hn' H' σ' p S => p.elim, fun Γ' M' Hn' H' σ' p S => p.elim, fun v d M' Hn' H' hd S r => ?_, fun x Γ' M' Hn' H' σ' cls dd p => p.elim⟩
    · by_cases hx : x = c
      · rw [hx, upd_same] at e
        rw [hx, h2, e]
      · rw [upd_ne hx] at e
        exact sm x o e
    · subst hd
      cases r
      exact k H'
end
end K27
end

section
set_option Elab.async false
set_option linter.all false
set_option maxRecDepth 100000
set_option maxHeartbeats 4000000
set_option pp.maxSteps 700
set_option hygiene false
open PySem PyProof.Rows L2 DL
namespace K27
open PySem PySem.Spec PyProof.Rows L2 DL
/-- an error of the class at S is what «except S» names -/
theorem exm_self {K : PySem.W.Frag} {S : Addr} (h1 : PySem.W.subIn K (.ref S) (.type "BaseException") = some true) (h2 : PySem.W.isClsIn K S = true) (h3 : PySem.W.typeIn K (.ref S) = some (.type "type")) (h4 : PySem.W.subIn K (.ref S) (.ref S) = some true) :
    PySem.W.exmOne K (.ref S) (.ref S) = some true := by
  have e1 : (PySem.W.subIn K (.ref S) (.type "BaseException") == some true) = true := by rw [h1] <;> rfl
  have e2 : ((PySem.W.clsIn K S).isSome && PySem.W.typeIn K (.ref S) == some (.type "type")) = true := by
    have h2' : (PySem.W.clsIn K S).isSome = true := h2
    rw [h2', h3] <;> rfl
  show (if (PySem.W.subIn K (.ref S) (.type "BaseException") == some true) = true then (if ((PySem.W.clsIn K S).isSome && PySem.W.typeIn K (.ref S) == some (.type "type")) = true then PySem.W.subIn K (.ref S) (.ref S) else none) else none) = some true
  rw [if_pos e1, if_pos e2]
  exact h4
theorem most_is : (9999999999999999999999999999999999999999 : Int) = MOST := by decide +kernel
theorem all_mk {l : PySem.W.OpenLaw} {w : World} {K : PySem.W.Frag} {h : Heap} {mg : Str → Option Value} {fa C CB f_isName f_isListed f_isRow f_init f_eq f_len f_rowAt f_bad f_pen f_draw f_pick f_shuf f_name f_names f_alike f_isNm f_planRows f_isNum f_are f_made f_bent f_law f_whole T_whole : Addr} (X : K.In h) (G : h.Ns mainGlobals mg) (hfa : mg "law" = some (.ref fa))
    {od_isName an_isName : Option Addr} {sl_isName : Array (Option Value)} {oc_isName kV_isName dc_isName pm_isName cd_isName ct_isName : Value}
    {od_isListed an_isListed : Option Addr} {sl_isListed : Array (Option Value)} {oc_isListed kV_isListed dc_isListed pm_isListed cd_isListed ct_isListed : Value}
    {od_isRow an_isRow : Option Addr} {sl_isRow : Array (Option Value)} {oc_isRow kV_isRow dc_isRow pm_isRow cd_isRow ct_isRow : Value}
    {od_init an_init : Option Addr} {sl_init : Array (Option Value)} {oc_init kV_init dc_init pm_init cd_init ct_init : Value}
    {od_eq an_eq : Option Addr} {sl_eq : Array (Option Value)} {oc_eq kV_eq dc_eq pm_eq cd_eq ct_eq : Value}
    {od_len an_len : Option Addr} {sl_len : Array (Option Value)} {oc_len kV_len dc_len pm_len cd_len ct_len : Value}
    {od_rowAt an_rowAt : Option Addr} {sl_rowAt : Array (Option Value)} {oc_rowAt kV_rowAt dc_rowAt pm_rowAt cd_rowAt ct_rowAt : Value}
    {od_bad an_bad : Option Addr} {sl_bad : Array (Option Value)} {oc_bad kV_bad dc_bad pm_bad cd_bad ct_bad : Value}
    {od_pen an_pen : Option Addr} {sl_pen : Array (Option Value)} {oc_pen kV_pen dc_pen pm_pen cd_pen ct_pen : Value}
    {od_draw an_draw : Option Addr} {sl_draw : Array (Option Value)} {oc_draw kV_draw dc_draw pm_draw cd_draw ct_draw : Value}
    {od_pick an_pick : Option Addr} {sl_pick : Array (Option Value)} {oc_pick kV_pick dc_pick pm_pick cd_pick ct_pick : Value}
    {od_shuf an_shuf : Option Addr} {sl_shuf : Array (Option Value)} {oc_shuf kV_shuf dc_shuf pm_shuf cd_shuf ct_shuf : Value}
    {od_name an_name : Option Addr} {sl_name : Array (Option Value)} {oc_name kV_name dc_name pm_name cd_name ct_name : Value}
    {od_names an_names : Option Addr} {sl_names : Array (Option Value)} {oc_names kV_names dc_names pm_names cd_names ct_names : Value}
    {od_alike an_alike : Option Addr} {sl_alike : Array (Option Value)} {oc_alike kV_alike dc_alike pm_alike cd_alike ct_alike : Value}
    {od_isNm an_isNm : Option Addr} {sl_isNm : Array (Option Value)} {oc_isNm kV_isNm dc_isNm pm_isNm cd_isNm ct_isNm : Value}
    {od_planRows an_planRows : Option Addr} {sl_planRows : Array (Option Value)} {oc_planRows kV_planRows dc_planRows pm_planRows cd_planRows ct_planRows : Value}
    {od_isNum an_isNum : Option Addr} {sl_isNum : Array (Option Value)} {oc_isNum kV_isNum dc_isNum pm_isNum cd_isNum ct_isNum : Value}
    {od_are an_are : Option Addr} {sl_are : Array (Option Value)} {oc_are kV_are dc_are pm_are cd_are ct_are : Value}
    {od_made an_made : Option Addr} {sl_made : Array (Option Value)} {oc_made kV_made dc_made pm_made cd_made ct_made : Value}
    {od_bent an_bent : Option Addr} {sl_bent : Array (Option Value)} {oc_bent kV_bent dc_bent pm_bent cd_bent ct_bent : Value}
    {od_law an_law : Option Addr} {sl_law : Array (Option Value)} {oc_law kV_law dc_law pm_law cd_law ct_law : Value}
    {od_whole an_whole : Option Addr} {sl_whole : Array (Option Value)} {oc_whole kV_whole dc_whole pm_whole cd_whole ct_whole : Value}
    {ocT : Value} {odT : Option Addr} {nTup : Nat} {slT : Array (Option Value)} {tM : Tok} {nmB qB : Str} {NB : Addr} {bsB bmB : List Value} {snB : List Str} {subB : List Value} {abB : Bool} {colB : Option Bool} {ddB : Option Addr} {m0 m1 m2 m3 m5 : Option Value}
    (aC : PySem.W.nsIn K mainGlobals "Plan" = some (some (.ref C)))
    (aB : PySem.W.nsIn K mainGlobals "BadRow" = some (some (.ref CB)))
    (a_isName : PySem.W.nsIn K mainGlobals "is_name" = some (some (.ref f_isName)))
    (l_isName : K.lookup f_isName = some ⟨oc_isName, od_isName, .func (PySem.W.fnOf "is_name" "is_name" (defArgs sIsName) (defBody sIsName) (defScope sIsName) .none kV_isName dc_isName pm_isName an_isName cd_isName ct_isName), sl_isName⟩)
    (c_isName : PySem.W.codeIn K cd_isName "is_name" = true)
    (k_isName : PySem.W.keepIn K (.ref f_isName) = true)
    (a_isListed : PySem.W.nsIn K mainGlobals "is_listed" = some (some (.ref f_isListed)))
    (l_isListed : K.lookup f_isListed = some ⟨oc_isListed, od_isListed, .func (PySem.W.fnOf "is_listed" "is_listed" (defArgs sIsListed) (defBody sIsListed) (defScope sIsListed) .none kV_isListed dc_isListed pm_isListed an_isListed cd_isListed ct_isListed), sl_isListed⟩)
    (c_isListed : PySem.W.codeIn K cd_isListed "is_listed" = true)
    (k_isListed : PySem.W.keepIn K (.ref f_isListed) = true)
    (a_isRow : PySem.W.nsIn K mainGlobals "is_plan_row" = some (some (.ref f_isRow)))
    (l_isRow : K.lookup f_isRow = some ⟨oc_isRow, od_isRow, .func (PySem.W.fnOf "is_plan_row" "is_plan_row" (defArgs sIsRow) (defBody sIsRow) (defScope sIsRow) .none kV_isRow dc_isRow pm_isRow an_isRow cd_isRow ct_isRow), sl_isRow⟩)
    (c_isRow : PySem.W.codeIn K cd_isRow "is_plan_row" = true)
    (k_isRow : PySem.W.keepIn K (.ref f_isRow) = true)
    (a_init : PySem.W.findIn K (.ref C) "__init__" = some (some (.ref f_init)))
    (i_init : PySem.W.isFn K (.ref f_init) = true)
    (l_init : K.lookup f_init = some ⟨oc_init, od_init, .func (PySem.W.fnOf "__init__" "Plan.__init__" (defArgs sInit) (defBody sInit) (defScope sInit) .none kV_init dc_init pm_init an_init cd_init ct_init), sl_init⟩)
    (c_init : PySem.W.codeIn K cd_init "Plan.__init__" = true)
    (k_init : PySem.W.keepIn K (.ref f_init) = true)
    (a_eq : PySem.W.findIn K (.ref C) "__eq__" = some (some (.ref f_eq)))
    (i_eq : PySem.W.isFn K (.ref f_eq) = true)
    (l_eq : K.lookup f_eq = some ⟨oc_eq, od_eq, .func (PySem.W.fnOf "__eq__" "Plan.__eq__" (defArgs sEq) (defBody sEq) (defScope sEq) .none kV_eq dc_eq pm_eq an_eq cd_eq ct_eq), sl_eq⟩)
    (c_eq : PySem.W.codeIn K cd_eq "Plan.__eq__" = true)
    (k_eq : PySem.W.keepIn K (.ref f_eq) = true)
    (a_len : PySem.W.findIn K (.ref C) "__len__" = some (some (.ref f_len)))
    (i_len : PySem.W.isFn K (.ref f_len) = true)
    (l_len : K.lookup f_len = some ⟨oc_len, od_len, .func (PySem.W.fnOf "__len__" "Plan.__len__" (defArgs sLen) (defBody sLen) (defScope sLen) .none kV_len dc_len pm_len an_len cd_len ct_len), sl_len⟩)
    (c_len : PySem.W.codeIn K cd_len "Plan.__len__" = true)
    (k_len : PySem.W.keepIn K (.ref f_len) = true)
    (a_rowAt : PySem.W.findIn K (.ref C) "row_at" = some (some (.ref f_rowAt)))
    (i_rowAt : PySem.W.isFn K (.ref f_rowAt) = true)
    (l_rowAt : K.lookup f_rowAt = some ⟨oc_rowAt, od_rowAt, .func (PySem.W.fnOf "row_at" "Plan.row_at" (defArgs sRowAt) (defBody sRowAt) (defScope sRowAt) .none kV_rowAt dc_rowAt pm_rowAt an_rowAt cd_rowAt ct_rowAt), sl_rowAt⟩)
    (c_rowAt : PySem.W.codeIn K cd_rowAt "Plan.row_at" = true)
    (k_rowAt : PySem.W.keepIn K (.ref f_rowAt) = true)
    (a_bad : PySem.W.findIn K (.ref CB) "__init__" = some (some (.ref f_bad)))
    (i_bad : PySem.W.isFn K (.ref f_bad) = true)
    (l_bad : K.lookup f_bad = some ⟨oc_bad, od_bad, .func (PySem.W.fnOf "__init__" "BadRow.__init__" (defArgs sBadInit) (defBody sBadInit) (defScope sBadInit) .none kV_bad dc_bad pm_bad an_bad cd_bad ct_bad), sl_bad⟩)
    (c_bad : PySem.W.codeIn K cd_bad "BadRow.__init__" = true)
    (k_bad : PySem.W.keepIn K (.ref f_bad) = true)
    (a_pen : PySem.W.nsIn K mainGlobals "_law_pen" = some (some (.ref f_pen)))
    (l_pen : K.lookup f_pen = some ⟨oc_pen, od_pen, .func (PySem.W.fnOf "_law_pen" "_law_pen" (defArgs sPen) (defBody sPen) (defScope sPen) .none kV_pen dc_pen pm_pen an_pen cd_pen ct_pen), sl_pen⟩)
    (c_pen : PySem.W.codeIn K cd_pen "_law_pen" = true)
    (k_pen : PySem.W.keepIn K (.ref f_pen) = true)
    (a_draw : PySem.W.nsIn K mainGlobals "_law_draw" = some (some (.ref f_draw)))
    (l_draw : K.lookup f_draw = some ⟨oc_draw, od_draw, .func (PySem.W.fnOf "_law_draw" "_law_draw" (defArgs sDraw) (defBody sDraw) (defScope sDraw) .none kV_draw dc_draw pm_draw an_draw cd_draw ct_draw), sl_draw⟩)
    (c_draw : PySem.W.codeIn K cd_draw "_law_draw" = true)
    (k_draw : PySem.W.keepIn K (.ref f_draw) = true)
    (a_pick : PySem.W.nsIn K mainGlobals "_law_pick" = some (some (.ref f_pick)))
    (l_pick : K.lookup f_pick = some ⟨oc_pick, od_pick, .func (PySem.W.fnOf "_law_pick" "_law_pick" (defArgs sPick) (defBody sPick) (defScope sPick) .none kV_pick dc_pick pm_pick an_pick cd_pick ct_pick), sl_pick⟩)
    (c_pick : PySem.W.codeIn K cd_pick "_law_pick" = true)
    (k_pick : PySem.W.keepIn K (.ref f_pick) = true)
    (a_shuf : PySem.W.nsIn K mainGlobals "_law_shuffled" = some (some (.ref f_shuf)))
    (l_shuf : K.lookup f_shuf = some ⟨oc_shuf, od_shuf, .func (PySem.W.fnOf "_law_shuffled" "_law_shuffled" (defArgs sShuf) (defBody sShuf) (defScope sShuf) .none kV_shuf dc_shuf pm_shuf an_shuf cd_shuf ct_shuf), sl_shuf⟩)
    (c_shuf : PySem.W.codeIn K cd_shuf "_law_shuffled" = true)
    (k_shuf : PySem.W.keepIn K (.ref f_shuf) = true)
    (a_name : PySem.W.nsIn K mainGlobals "_law_name" = some (some (.ref f_name)))
    (l_name : K.lookup f_name = some ⟨oc_name, od_name, .func (PySem.W.fnOf "_law_name" "_law_name" (defArgs sName) (defBody sName) (defScope sName) .none kV_name dc_name pm_name an_name cd_name ct_name), sl_name⟩)
    (c_name : PySem.W.codeIn K cd_name "_law_name" = true)
    (k_name : PySem.W.keepIn K (.ref f_name) = true)
    (a_names : PySem.W.nsIn K mainGlobals "_law_names" = some (some (.ref f_names)))
    (l_names : K.lookup f_names = some ⟨oc_names, od_names, .func (PySem.W.fnOf "_law_names" "_law_names" (defArgs sNames) (defBody sNames) (defScope sNames) .none kV_names dc_names pm_names an_names cd_names ct_names), sl_names⟩)
    (c_names : PySem.W.codeIn K cd_names "_law_names" = true)
    (k_names : PySem.W.keepIn K (.ref f_names) = true)
    (a_alike : PySem.W.nsIn K mainGlobals "_law_alike" = some (some (.ref f_alike)))
    (l_alike : K.lookup f_alike = some ⟨oc_alike, od_alike, .func (PySem.W.fnOf "_law_alike" "_law_alike" (defArgs sAlike) (defBody sAlike) (defScope sAlike) .none kV_alike dc_alike pm_alike an_alike cd_alike ct_alike), sl_alike⟩)
    (c_alike : PySem.W.codeIn K cd_alike "_law_alike" = true)
    (k_alike : PySem.W.keepIn K (.ref f_alike) = true)
    (a_isNm : PySem.W.nsIn K mainGlobals "_law_is_name" = some (some (.ref f_isNm)))
    (l_isNm : K.lookup f_isNm = some ⟨oc_isNm, od_isNm, .func (PySem.W.fnOf "_law_is_name" "_law_is_name" (defArgs sIsNm) (defBody sIsNm) (defScope sIsNm) .none kV_isNm dc_isNm pm_isNm an_isNm cd_isNm ct_isNm), sl_isNm⟩)
    (c_isNm : PySem.W.codeIn K cd_isNm "_law_is_name" = true)
    (k_isNm : PySem.W.keepIn K (.ref f_isNm) = true)
    (a_planRows : PySem.W.nsIn K mainGlobals "_law_plan_rows" = some (some (.ref f_planRows)))
    (l_planRows : K.lookup f_planRows = some ⟨oc_planRows, od_planRows, .func (PySem.W.fnOf "_law_plan_rows" "_law_plan_rows" (defArgs sPlanRows) (defBody sPlanRows) (defScope sPlanRows) .none kV_planRows dc_planRows pm_planRows an_planRows cd_planRows ct_planRows), sl_planRows⟩)
    (c_planRows : PySem.W.codeIn K cd_planRows "_law_plan_rows" = true)
    (k_planRows : PySem.W.keepIn K (.ref f_planRows) = true)
    (a_isNum : PySem.W.nsIn K mainGlobals "_law_is_number" = some (some (.ref f_isNum)))
    (l_isNum : K.lookup f_isNum = some ⟨oc_isNum, od_isNum, .func (PySem.W.fnOf "_law_is_number" "_law_is_number" (defArgs sIsNum) (defBody sIsNum) (defScope sIsNum) .none kV_isNum dc_isNum pm_isNum an_isNum cd_isNum ct_isNum), sl_isNum⟩)
    (c_isNum : PySem.W.codeIn K cd_isNum "_law_is_number" = true)
    (k_isNum : PySem.W.keepIn K (.ref f_isNum) = true)
    (a_are : PySem.W.nsIn K mainGlobals "_law_are_rows" = some (some (.ref f_are)))
    (l_are : K.lookup f_are = some ⟨oc_are, od_are, .func (PySem.W.fnOf "_law_are_rows" "_law_are_rows" (defArgs sAreRows) (defBody sAreRows) (defScope sAreRows) .none kV_are dc_are pm_are an_are cd_are ct_are), sl_are⟩)
    (c_are : PySem.W.codeIn K cd_are "_law_are_rows" = true)
    (k_are : PySem.W.keepIn K (.ref f_are) = true)
    (a_made : PySem.W.nsIn K mainGlobals "_law_made" = some (some (.ref f_made)))
    (l_made : K.lookup f_made = some ⟨oc_made, od_made, .func (PySem.W.fnOf "_law_made" "_law_made" (defArgs sMade) (defBody sMade) (defScope sMade) .none kV_made dc_made pm_made an_made cd_made ct_made), sl_made⟩)
    (c_made : PySem.W.codeIn K cd_made "_law_made" = true)
    (k_made : PySem.W.keepIn K (.ref f_made) = true)
    (a_bent : PySem.W.nsIn K mainGlobals "_law_bent" = some (some (.ref f_bent)))
    (l_bent : K.lookup f_bent = some ⟨oc_bent, od_bent, .func (PySem.W.fnOf "_law_bent" "_law_bent" (defArgs sBent) (defBody sBent) (defScope sBent) .none kV_bent dc_bent pm_bent an_bent cd_bent ct_bent), sl_bent⟩)
    (c_bent : PySem.W.codeIn K cd_bent "_law_bent" = true)
    (k_bent : PySem.W.keepIn K (.ref f_bent) = true)
    (a_law : PySem.W.nsIn K mainGlobals "law" = some (some (.ref f_law)))
    (l_law : K.lookup f_law = some ⟨oc_law, od_law, .func (PySem.W.fnOf "law" "law" (defArgs sLaw) (defBody sLaw) (defScope sLaw) .none kV_law dc_law pm_law an_law cd_law ct_law), sl_law⟩)
    (c_law : PySem.W.codeIn K cd_law "law" = true)
    (k_law : PySem.W.keepIn K (.ref f_law) = true)
    (a_whole : PySem.W.nsIn K mainGlobals "is_whole" = some (some (.ref f_whole)))
    (l_whole : K.lookup f_whole = some ⟨oc_whole, od_whole, .func (PySem.W.fnOf "is_whole" "is_whole" (defArgs sIsWhole) (defBody sIsWhole) (defScope sIsWhole) (.ref T_whole) kV_whole dc_whole pm_whole an_whole cd_whole ct_whole), sl_whole⟩)
    (c_whole : PySem.W.codeIn K cd_whole "is_whole" = true)
    (k_whole : PySem.W.keepIn K (.ref f_whole) = true)
    (d_whole : K.lookup T_whole = some ⟨ocT, odT, .seq [Value.none].toArray nTup, slT⟩)
    (aM : PySem.W.nsIn K mainGlobals "MOST_NUMBER" = some (some (.int 9999999999999999999999999999999999999999 tM)))
    (pg : PySem.W.plainGet K C Str.empty = true)
    (hd : PySem.W.hasDictIn K C = true)
    (po : PySem.W.plainOver K C = true)
    (sa : PySem.W.findIn K (.ref C) "__setattr__" = some (some (.builtin "object.__setattr__")))
    (mk : PySem.W.makesIn K C = true)
    (kc : PySem.W.keepIn K (.ref C) = true)
    (nR : PySem.W.findIn K (.ref C) "rows" = some none)
    (nT : PySem.W.findIn K (.ref C) "_told" = some none)
    (q1 : PySem.W.kitOne K (.type "tuple") (.ref C) = some false)
    (q2 : PySem.W.kitOne K (.ref C) (.ref C) = some true)
    (nf : PySem.W.notFirst K C (.type "tuple") = true)
    (xL : K.lookup CB = some (excClassObj nmB qB CB NB bsB bmB true snB subB abB colB ddB m0 m1 m2 m3 m5 "ValueError.__new__"))
    (vB : PySem.HandSPX.refsVE bmB = true)
    (saB : PySem.W.findIn K (.ref CB) "__setattr__" = some (some (.builtin "object.__setattr__")))
    (gaB : PySem.W.findIn K (.ref CB) "__getattribute__" = some (some (.builtin "BaseException.__getattribute__")))
    (ggB : PySem.W.findIn K (.ref CB) "__getattr__" = some none)
    (wB : PySem.W.findIn K (.ref CB) "what" = some none)
    (rB : PySem.W.findIn K (.ref CB) "row" = some none)
    (tI : PySem.W.typeIn K (.ref f_bad) = some (.type "function"))
    (kB : PySem.W.keepIn K (.ref CB) = true)
    (eB : PySem.W.subIn K (.ref CB) (.type "BaseException") = some true)
    (tB : PySem.W.typeIn K (.ref CB) = some (.type "type"))
    (hB : PySem.W.hasDictIn K CB = true)
    (iB : PySem.W.isClsIn K CB = true)
    (sB : PySem.W.subIn K (.ref CB) (.ref CB) = some true)
    (icA : PySem.W.findIn K (.ref C) "__class__" = some (some (.builtin "object.__class__")))
    (icB : PySem.W.specialIn K (.builtin "object.__class__") "__get__" = some (some (.builtin "getset_descriptor.__get__")))
    (icC : PySem.W.takesIn K (.builtin "object.__class__") = some true)
    (icD : PySem.W.mroIn K C (.type "object") = some true)
    (z_isinstance : PySem.W.nsIn K mainGlobals "isinstance" = some none)
    (z_len : PySem.W.nsIn K mainGlobals "len" = some none)
    (z_all : PySem.W.nsIn K mainGlobals "all" = some none)
    (z_any : PySem.W.nsIn K mainGlobals "any" = some none)
    (z_range : PySem.W.nsIn K mainGlobals "range" = some none)
    (z_sorted : PySem.W.nsIn K mainGlobals "sorted" = some none)
    (z_zip : PySem.W.nsIn K mainGlobals "zip" = some none)
    (z_min : PySem.W.nsIn K mainGlobals "min" = some none)
    (z_str : PySem.W.nsIn K mainGlobals "str" = some none)
    (z_int : PySem.W.nsIn K mainGlobals "int" = some none)
    (z_bool : PySem.W.nsIn K mainGlobals "bool" = some none)
    (z_list : PySem.W.nsIn K mainGlobals "list" = some none)
    (z_tuple : PySem.W.nsIn K mainGlobals "tuple" = some none)
    (z_dict : PySem.W.nsIn K mainGlobals "dict" = some none) :
    ∃ fd : FuncData, (∀ (s : Shared) (v : Value), BindsTo s fd ⟨[v], []⟩ [("script", v)]) ∧ ∀ base : Heap, K.In base → base.Ns mainGlobals mg → FnOk l.prog w K mg base (L2.CX l.prog w) 10 fa fd ["script"] (spLaw K) := by
  have e := hfa.symm.trans (PySem.W.mg_of X G a_law)
  cases e
  have b : Bn mg := ⟨PySem.W.mg_none_of X G z_isinstance, PySem.W.mg_none_of X G z_len, PySem.W.mg_none_of X G z_all, PySem.W.mg_none_of X G z_any, PySem.W.mg_none_of X G z_range, PySem.W.mg_none_of X G z_sorted, PySem.W.mg_none_of X G z_zip, PySem.W.mg_none_of X G z_min, PySem.W.mg_none_of X G z_str, PySem.W.mg_none_of X G z_int, PySem.W.mg_none_of X G z_bool, PySem.W.mg_none_of X G z_list, PySem.W.mg_none_of X G z_tuple, PySem.W.mg_none_of X G z_dict⟩
  have F_isName := fun_mk (st := sIsName) l_isName c_isName k_isName
  have b_isName := F_isName.binds (ps := ["value"]) fun _ _ _ _ _ _ us hl => match us, hl with | [_], _ => rfl
  have F_isListed := fun_mk (st := sIsListed) l_isListed c_isListed k_isListed
  have b_isListed := F_isListed.binds (ps := ["value"]) fun _ _ _ _ _ _ us hl => match us, hl with | [_], _ => rfl
  have F_isRow := fun_mk (st := sIsRow) l_isRow c_isRow k_isRow
  have b_isRow := F_isRow.binds (ps := ["value"]) fun _ _ _ _ _ _ us hl => match us, hl with | [_], _ => rfl
  have F_init := fun_mk (st := sInit) l_init c_init k_init
  have b_init := F_init.binds (ps := ["self", "rows"]) fun _ _ _ _ _ _ us hl => match us, hl with | [_, _], _ => rfl
  have F_eq := fun_mk (st := sEq) l_eq c_eq k_eq
  have b_eq := F_eq.binds (ps := ["self", "other"]) fun _ _ _ _ _ _ us hl => match us, hl with | [_, _], _ => rfl
  have F_len := fun_mk (st := sLen) l_len c_len k_len
  have b_len := F_len.binds (ps := ["self"]) fun _ _ _ _ _ _ us hl => match us, hl with | [_], _ => rfl
  have F_rowAt := fun_mk (st := sRowAt) l_rowAt c_rowAt k_rowAt
  have b_rowAt := F_rowAt.binds (ps := ["self", "place", "memory"]) fun _ _ _ _ _ _ us hl => match us, hl with | [_, _, _], _ => rfl
  have F_bad := fun_mk (st := sBadInit) l_bad c_bad k_bad
  have b_bad := F_bad.binds (ps := ["self", "what", "row"]) fun _ _ _ _ _ _ us hl => match us, hl with | [_, _, _], _ => rfl
  have F_pen := fun_mk (st := sPen) l_pen c_pen k_pen
  have b_pen := F_pen.binds (ps := ["script"]) fun _ _ _ _ _ _ us hl => match us, hl with | [_], _ => rfl
  have F_draw := fun_mk (st := sDraw) l_draw c_draw k_draw
  have b_draw := F_draw.binds (ps := ["pen", "many"]) fun _ _ _ _ _ _ us hl => match us, hl with | [_, _], _ => rfl
  have F_pick := fun_mk (st := sPick) l_pick c_pick k_pick
  have b_pick := F_pick.binds (ps := ["pen", "some"]) fun _ _ _ _ _ _ us hl => match us, hl with | [_, _], _ => rfl
  have F_shuf := fun_mk (st := sShuf) l_shuf c_shuf k_shuf
  have b_shuf := F_shuf.binds (ps := ["pen", "some"]) fun _ _ _ _ _ _ us hl => match us, hl with | [_, _], _ => rfl
  have F_name := fun_mk (st := sName) l_name c_name k_name
  have b_name := F_name.binds (ps := ["pen", "index"]) fun _ _ _ _ _ _ us hl => match us, hl with | [_, _], _ => rfl
  have F_names := fun_mk (st := sNames) l_names c_names k_names
  have b_names := F_names.binds (ps := ["pen", "many"]) fun _ _ _ _ _ _ us hl => match us, hl with | [_, _], _ => rfl
  have F_alike := fun_mk (st := sAlike) l_alike c_alike k_alike
  have b_alike := F_alike.binds (ps := ["one", "other"]) fun _ _ _ _ _ _ us hl => match us, hl with | [_, _], _ => rfl
  have F_isNm := fun_mk (st := sIsNm) l_isNm c_isNm k_isNm
  have b_isNm := F_isNm.binds (ps := ["value"]) fun _ _ _ _ _ _ us hl => match us, hl with | [_], _ => rfl
  have F_planRows := fun_mk (st := sPlanRows) l_planRows c_planRows k_planRows
  have b_planRows := F_planRows.binds (ps := ["plan"]) fun _ _ _ _ _ _ us hl => match us, hl with | [_], _ => rfl
  have F_isNum := fun_mk (st := sIsNum) l_isNum c_isNum k_isNum
  have b_isNum := F_isNum.binds (ps := ["value"]) fun _ _ _ _ _ _ us hl => match us, hl with | [_], _ => rfl
  have F_are := fun_mk (st := sAreRows) l_are c_are k_are
  have b_are := F_are.binds (ps := ["rows"]) fun _ _ _ _ _ _ us hl => match us, hl with | [_], _ => rfl
  have F_made := fun_mk (st := sMade) l_made c_made k_made
  have b_made := F_made.binds (ps := ["rows"]) fun _ _ _ _ _ _ us hl => match us, hl with | [_], _ => rfl
  have F_bent := fun_mk (st := sBent) l_bent c_bent k_bent
  have b_bent := F_bent.binds (ps := ["pen", "rows"]) fun _ _ _ _ _ _ us hl => match us, hl with | [_, _], _ => rfl
  have F_law := fun_mk (st := sLaw) l_law c_law k_law
  have b_law := F_law.binds (ps := ["script"]) fun _ _ _ _ _ _ us hl => match us, hl with | [_], _ => rfl
  have F_whole : FunD K "is_whole" "is_whole" (defArgs sIsWhole) (defBody sIsWhole) (defScope sIsWhole) [.non] [] f_whole _ := ⟨⟨_, _, _, _, _, _, _, _, _, _, rfl, l_whole, c_whole, .inr ⟨by simp, T_whole, _, [Value.none], _, rfl, d_whole, rfl, .cons rfl .nil⟩, .inl rfl⟩, k_whole⟩
  obtain ⟨d3, r3, b3⟩ := F_whole.binds1 (ps := ["value", "least", "most"]) 3 1 (by simp) rfl fun T kV doc pm an cdv ct us its h1 h2 => match us, its, h1, h2 with | [_, _, _], [_], _, _ => ⟨_, rfl, rfl⟩
  obtain ⟨d2, r2, b2⟩ := F_whole.binds1 (ps := ["value", "least", "most"]) 2 0 (by simp) rfl fun T kV doc pm an cdv ct us its h1 h2 => match us, its, h1, h2 with | [_, _], [_], _, _ => ⟨_, rfl, rfl⟩
  have hM : mg "MOST_NUMBER" = some (.int MOST tM) := by
    rw [← most_is]
    exact PySem.W.mg_of X G aM
  have cl : Cls K C := ⟨pg, hd, po, sa⟩
  have hC : mg "Plan" = some (.ref C) := PySem.W.mg_of X G aC
  have ox : OexC K CB := ⟨⟨nmB, qB, NB, bsB, bmB, snB, subB, abB, colB, ddB, m0, m1, m2, m3, m5, xL, vB⟩, saB, eB, tB, kB⟩
  refine ⟨PySem.W.fnOf "law" "law" (defArgs sLaw) (defBody sLaw) (defScope sLaw) .none kV_law dc_law pm_law an_law cd_law ct_law, fun s v => .of_eq rfl, fun base _ _ => ?_⟩
  have g_isName : GFn l.prog w K mg base 1 "is_name" [] (spName) := ⟨⟨f_isName, _, ["value"], [], [], ok_isName F_isName b, PySem.W.mg_of X G a_isName, k_isName, b_isName, .nil, fun _ => .nil⟩⟩
  have g_w3 : GFn l.prog w K mg base 1 "is_whole" [] spWhole := ⟨⟨f_whole, _, ["value", "least", "most"], d3, [], ok_isWhole F_whole b, PySem.W.mg_of X G a_whole, k_whole, b3, r3, fun _ => .nil⟩⟩
  have g_w2 : GFn l.prog w K mg base 1 "is_whole" [.non] spWhole := ⟨⟨f_whole, _, ["value", "least", "most"], d2, [.non], ok_isWhole F_whole b, PySem.W.mg_of X G a_whole, k_whole, b2, r2, fun _ => .cons .non .nil⟩⟩
  have g_isListed : GFn l.prog w K mg base 1 "is_listed" [] (spListed) := ⟨⟨f_isListed, _, ["value"], [], [], ok_isListed F_isListed b, PySem.W.mg_of X G a_isListed, k_isListed, b_isListed, .nil, fun _ => .nil⟩⟩
  have g_isRow : GFn l.prog w K mg base 3 "is_plan_row" [] (spRow) := ⟨⟨f_isRow, _, ["value"], [], [], ok_isRow F_isRow b g_isName g_w3 hM, PySem.W.mg_of X G a_isRow, k_isRow, b_isRow, .nil, fun _ => .nil⟩⟩
  have g_B : GXc l.prog w K mg base 1 "BadRow" CB ["what", "row"] := ⟨PySem.W.mg_of X G aB, ox, ⟨gaB, ggB, eB, hB⟩, fun f hf => by
    simp only [List.mem_cons, List.not_mem_nil, or_false] at hf
    rcases hf with rfl | rfl
    · exact wB
    · exact rB, f_bad, _, ["self", "what", "row"], a_bad, tI, ok_bad F_bad ox wB rB, b_bad⟩
  have g_P : GMk l.prog w K mg base 5 "Plan" C [] (spInit C CB) := ⟨hC, f_init, _, ["self", "rows"], [], [], ok_init F_init b g_isListed g_isRow g_B cl nR nT, ⟨mk, a_init, i_init, kc⟩, b_init, .nil, fun _ => .nil⟩
  have g_eq : GMe l.prog w K mg base 1 C "__eq__" [] (spEq C) := ⟨cl, f_eq, _, ["self", "other"], [], [], ok_eq F_eq b cl nR hC q1 ⟨cl, icA, icB, icC, icD⟩ q2, ⟨a_eq, i_eq, k_eq⟩, b_eq, .nil, fun _ => .nil⟩
  have g_len : GMe l.prog w K mg base 1 C "__len__" [] (spLen C) := ⟨cl, f_len, _, ["self"], [], [], ok_len F_len b cl nR, ⟨a_len, i_len, k_len⟩, b_len, .nil, fun _ => .nil⟩
  have g_rat : GMe l.prog w K mg base 3 C "row_at" [] (spRowAt C) := ⟨cl, f_rowAt, _, ["self", "place", "memory"], [], [], ok_rowAt F_rowAt b g_isName g_w2 cl nT, ⟨a_rowAt, i_rowAt, k_rowAt⟩, b_rowAt, .nil, fun _ => .nil⟩
  have g_draw : GFn l.prog w K mg base 1 "_law_draw" [] (spDraw) := ⟨⟨f_draw, _, ["pen", "many"], [], [], ok_draw F_draw b, PySem.W.mg_of X G a_draw, k_draw, b_draw, .nil, fun _ => .nil⟩⟩
  have g_pick : GFn l.prog w K mg base 2 "_law_pick" [] (spPick) := ⟨⟨f_pick, _, ["pen", "some"], [], [], ok_pick F_pick b g_draw, PySem.W.mg_of X G a_pick, k_pick, b_pick, .nil, fun _ => .nil⟩⟩
  have g_shuf : GFn l.prog w K mg base 2 "_law_shuffled" [] (spShuf) := ⟨⟨f_shuf, _, ["pen", "some"], [], [], ok_shuf F_shuf b g_draw, PySem.W.mg_of X G a_shuf, k_shuf, b_shuf, .nil, fun _ => .nil⟩⟩
  have g_name : GFn l.prog w K mg base 2 "_law_name" [] (spName') := ⟨⟨f_name, _, ["pen", "index"], [], [], ok_name F_name b g_draw, PySem.W.mg_of X G a_name, k_name, b_name, .nil, fun _ => .nil⟩⟩
  have g_names : GFn l.prog w K mg base 3 "_law_names" [] (spNames) := ⟨⟨f_names, _, ["pen", "many"], [], [], ok_names F_names b g_shuf g_name, PySem.W.mg_of X G a_names, k_names, b_names, .nil, fun _ => .nil⟩⟩
  have g_alike : GFn l.prog w K mg base 5 "_law_alike" [] (spAlike 4) := ⟨⟨f_alike, _, ["one", "other"], [], [], ok_alike F_alike b (PySem.W.mg_of X G a_alike) k_alike b_alike 4, PySem.W.mg_of X G a_alike, k_alike, b_alike, .nil, fun _ => .nil⟩⟩
  have g_isNm : GFn l.prog w K mg base 1 "_law_is_name" [] (spName) := ⟨⟨f_isNm, _, ["value"], [], [], ok_isNm F_isNm b, PySem.W.mg_of X G a_isNm, k_isNm, b_isNm, .nil, fun _ => .nil⟩⟩
  have g_planRows : GFn l.prog w K mg base 1 "_law_plan_rows" [] (spPlanRows) := ⟨⟨f_planRows, _, ["plan"], [], [], ok_planRows F_planRows b, PySem.W.mg_of X G a_planRows, k_planRows, b_planRows, .nil, fun _ => .nil⟩⟩
  have g_isNum : GFn l.prog w K mg base 1 "_law_is_number" [] (spNum) := ⟨⟨f_isNum, _, ["value"], [], [], ok_isNum F_isNum b, PySem.W.mg_of X G a_isNum, k_isNum, b_isNum, .nil, fun _ => .nil⟩⟩
  have g_are : GFn l.prog w K mg base 2 "_law_are_rows" [] (spAre) := ⟨⟨f_are, _, ["rows"], [], [], ok_are F_are b g_isNm g_isNum, PySem.W.mg_of X G a_are, k_are, b_are, .nil, fun _ => .nil⟩⟩
  have g_made : GFn l.prog w K mg base 7 "_law_made" [] (spMade C) := ⟨⟨f_made, _, ["rows"], [], [], ok_made F_made g_P g_B (exm_self eB iB tB sB), PySem.W.mg_of X G a_made, k_made, b_made, .nil, fun _ => .nil⟩⟩
  have g_bent : GFn l.prog w K mg base 3 "_law_bent" [] (spBent) := ⟨⟨f_bent, _, ["pen", "rows"], [], [], ok_bent F_bent b g_draw g_pick, PySem.W.mg_of X G a_bent, k_bent, b_bent, .nil, fun _ => .nil⟩⟩
  exact ok_law F_law b ⟨g_draw, g_pick, g_shuf, g_names, g_planRows, g_made, g_alike, g_isNum, g_bent, g_are, g_P, g_eq, g_len, g_rat, nR, nf⟩ (ok_pen F_pen b) (PySem.W.mg_of X G a_pen) k_pen b_pen
end K27
open PySem PySem.W PyProof.Rows in
set_option maxRecDepth 100000 in
set_option maxHeartbeats 0 in
theorem PySem.Challenge.cw_doneornot_k27_plans_made_holds : PySem.Challenge.rw_doneornot_k27_plans_made.Holds := by
  w_on; o_law; k_head; (case hw => w_witness2)
  k_fill
  refine L2.walk_of (l := PySem.Challenge.rw_doneornot_k27_plans_made) (n := 63) (k := 10) (x := "script") (CX := fun w => L2.CX (PySem.Challenge.rw_doneornot_k27_plans_made).prog w) (sp := fun w => K27.spLaw _) rfl (by decide) rfl ⟨rfl, by decide, by decide⟩ (fun w h Y => PySem.W.kIn_of Y) ?F (fun _ _ a ns _ _ hS => ⟨a, ns, rfl, hS, fun _ => rfl⟩) (fun w H s e s' h => by
    obtain ⟨_, _, _, _, _, _, _, _, _, _, _, _, z⟩ := h
    exact z.elim)
  case F =>
    intro w mg fa h KX G hmg
    refine' K27.all_mk (l := PySem.Challenge.rw_doneornot_k27_plans_made) KX G hmg ?aC ?aB ?a_isName ?l_isName ?c_isName ?k_isName ?a_isListed ?l_isListed ?c_isListed ?k_isListed ?a_isRow ?l_isRow ?c_isRow ?k_isRow ?a_init ?i_init ?l_init ?c_init ?k_init ?a_eq ?i_eq ?l_eq ?c_eq ?k_eq ?a_len ?i_len ?l_len ?c_len ?k_len ?a_rowAt ?i_rowAt ?l_rowAt ?c_rowAt ?k_rowAt ?a_bad ?i_bad ?l_bad ?c_bad ?k_bad ?a_pen ?l_pen ?c_pen ?k_pen ?a_draw ?l_draw ?c_draw ?k_draw ?a_pick ?l_pick ?c_pick ?k_pick ?a_shuf ?l_shuf ?c_shuf ?k_shuf ?a_name ?l_name ?c_name ?k_name ?a_names ?l_names ?c_names ?k_names ?a_alike ?l_alike ?c_alike ?k_alike ?a_isNm ?l_isNm ?c_isNm ?k_isNm ?a_planRows ?l_planRows ?c_planRows ?k_planRows ?a_isNum ?l_isNum ?c_isNum ?k_isNum ?a_are ?l_are ?c_are ?k_are ?a_made ?l_made ?c_made ?k_made ?a_bent ?l_bent ?c_bent ?k_bent ?a_law ?l_law ?c_law ?k_law ?a_whole ?l_whole ?c_whole ?k_whole ?d_whole ?aM ?pg ?hd ?po ?sa ?mk ?kc ?nR ?nT ?q1 ?q2 ?nf ?xL ?vB ?saB ?gaB ?ggB ?wB ?rB ?tI ?kB ?eB ?tB ?hB ?iB ?sB ?icA ?icB ?icC ?icD ?z_isinstance ?z_len ?z_all ?z_any ?z_range ?z_sorted ?z_zip ?z_min ?z_str ?z_int ?z_bool ?z_list ?z_tuple ?z_dict
    (case aC => first | k_is | rfl | decide +kernel)
    (case aB => first | k_is | rfl | decide +kernel)
    (case a_isName => first | k_is | rfl | decide +kernel)
    (case l_isName => first | k_is | rfl | decide +kernel)
    (case c_isName => first | k_is | rfl | decide +kernel)
    (case k_isName => first | k_is | rfl | decide +kernel)
    (case a_isListed => first | k_is | rfl | decide +kernel)
    (case l_isListed => first | k_is | rfl | decide +kernel)
    (case c_isListed => first | k_is | rfl | decide +kernel)
    (case k_isListed => first | k_is | rfl | decide +kernel)
    (case a_isRow => first | k_is | rfl | decide +kernel)
    (case l_isRow => first | k_is | rfl | decide +kernel)
    (case c_isRow => first | k_is | rfl | decide +kernel)
    (case k_isRow => first | k_is | rfl | decide +kernel)
    (case a_init => first | k_is | rfl | decide +kernel)
    (case i_init => first | k_is | rfl | decide +kernel)
    (case l_init => first | k_is | rfl | decide +kernel)
    (case c_init => first | k_is | rfl | decide +kernel)
    (case k_init => first | k_is | rfl | decide +kernel)
    (case a_eq => first | k_is | rfl | decide +kernel)
    (case i_eq => first | k_is | rfl | decide +kernel)
    (case l_eq => first | k_is | rfl | decide +kernel)
    (case c_eq => first | k_is | rfl | decide +kernel)
    (case k_eq => first | k_is | rfl | decide +kernel)
    (case a_len => first | k_is | rfl | decide +kernel)
    (case i_len => first | k_is | rfl | decide +kernel)
    (case l_len => first | k_is | rfl | decide +kernel)
    (case c_len => first | k_is | rfl | decide +kernel)
    (case k_len => first | k_is | rfl | decide +kernel)
    (case a_rowAt => first | k_is | rfl | decide +kernel)
    (case i_rowAt => first | k_is | rfl | decide +kernel)
    (case l_rowAt => first | k_is | rfl | decide +kernel)
    (case c_rowAt => first | k_is | rfl | decide +kernel)
    (case k_rowAt => first | k_is | rfl | decide +kernel)
    (case a_bad => first | k_is | rfl | decide +kernel)
    (case i_bad => first | k_is | rfl | decide +kernel)
    (case l_bad => first | k_is | rfl | decide +kernel)
    (case c_bad => first | k_is | rfl | decide +kernel)
    (case k_bad => first | k_is | rfl | decide +kernel)
    (case a_pen => first | k_is | rfl | decide +kernel)
    (case l_pen => first | k_is | rfl | decide +kernel)
    (case c_pen => first | k_is | rfl | decide +kernel)
    (case k_pen => first | k_is | rfl | decide +kernel)
    (case a_draw => first | k_is | rfl | decide +kernel)
    (case l_draw => first | k_is | rfl | decide +kernel)
    (case c_draw => first | k_is | rfl | decide +kernel)
    (case k_draw => first | k_is | rfl | decide +kernel)
    (case a_pick => first | k_is | rfl | decide +kernel)
    (case l_pick => first | k_is | rfl | decide +kernel)
    (case c_pick => first | k_is | rfl | decide +kernel)
    (case k_pick => first | k_is | rfl | decide +kernel)
    (case a_shuf => first | k_is | rfl | decide +kernel)
    (case l_shuf => first | k_is | rfl | decide +kernel)
    (case c_shuf => first | k_is | rfl | decide +kernel)
    (case k_shuf => first | k_is | rfl | decide +kernel)
    (case a_name => first | k_is | rfl | decide +kernel)
    (case l_name => first | k_is | rfl | decide +kernel)
    (case c_name => first | k_is | rfl | decide +kernel)
    (case k_name => first | k_is | rfl | decide +kernel)
    (case a_names => first | k_is | rfl | decide +kernel)
    (case l_names => first | k_is | rfl | decide +kernel)
    (case c_names => first | k_is | rfl | decide +kernel)
    (case k_names => first | k_is | rfl | decide +kernel)
    (case a_alike => first | k_is | rfl | decide +kernel)
    (case l_alike => first | k_is | rfl | decide +kernel)
    (case c_alike => first | k_is | rfl | decide +kernel)
    (case k_alike => first | k_is | rfl | decide +kernel)
    (case a_isNm => first | k_is | rfl | decide +kernel)
    (case l_isNm => first | k_is | rfl | decide +kernel)
    (case c_isNm => first | k_is | rfl | decide +kernel)
    (case k_isNm => first | k_is | rfl | decide +kernel)
    (case a_planRows => first | k_is | rfl | decide +kernel)
    (case l_planRows => first | k_is | rfl | decide +kernel)
    (case c_planRows => first | k_is | rfl | decide +kernel)
    (case k_planRows => first | k_is | rfl | decide +kernel)
    (case a_isNum => first | k_is | rfl | decide +kernel)
    (case l_isNum => first | k_is | rfl | decide +kernel)
    (case c_isNum => first | k_is | rfl | decide +kernel)
    (case k_isNum => first | k_is | rfl | decide +kernel)
    (case a_are => first | k_is | rfl | decide +kernel)
    (case l_are => first | k_is | rfl | decide +kernel)
    (case c_are => first | k_is | rfl | decide +kernel)
    (case k_are => first | k_is | rfl | decide +kernel)
    (case a_made => first | k_is | rfl | decide +kernel)
    (case l_made => first | k_is | rfl | decide +kernel)
    (case c_made => first | k_is | rfl | decide +kernel)
    (case k_made => first | k_is | rfl | decide +kernel)
    (case a_bent => first | k_is | rfl | decide +kernel)
    (case l_bent => first | k_is | rfl | decide +kernel)
    (case c_bent => first | k_is | rfl | decide +kernel)
    (case k_bent => first | k_is | rfl | decide +kernel)
    (case a_law => first | k_is | rfl | decide +kernel)
    (case l_law => first | k_is | rfl | decide +kernel)
    (case c_law => first | k_is | rfl | decide +kernel)
    (case k_law => first | k_is | rfl | decide +kernel)
    (case a_whole => first | k_is | rfl | decide +kernel)
    (case l_whole => first | k_is | rfl | decide +kernel)
    (case c_whole => first | k_is | rfl | decide +kernel)
    (case k_whole => first | k_is | rfl | decide +kernel)
    (case d_whole => first | k_is | rfl | decide +kernel)
    (case aM => first | k_is | rfl | decide +kernel)
    (case pg => first | k_is | rfl | decide +kernel)
    (case hd => first | k_is | rfl | decide +kernel)
    (case po => first | k_is | rfl | decide +kernel)
    (case sa => first | k_is | rfl | decide +kernel)
    (case mk => first | k_is | rfl | decide +kernel)
    (case kc => first | k_is | rfl | decide +kernel)
    (case nR => first | k_is | rfl | decide +kernel)
    (case nT => first | k_is | rfl | decide +kernel)
    (case q1 => first | k_is | rfl | decide +kernel)
    (case q2 => first | k_is | rfl | decide +kernel)
    (case nf => first | k_is | rfl | decide +kernel)
    (case xL => first | k_is | rfl | decide +kernel)
    (case vB => first | k_is | rfl | decide +kernel)
    (case saB => first | k_is | rfl | decide +kernel)
    (case gaB => first | k_is | rfl | decide +kernel)
    (case ggB => first | k_is | rfl | decide +kernel)
    (case wB => first | k_is | rfl | decide +kernel)
    (case rB => first | k_is | rfl | decide +kernel)
    (case tI => first | k_is | rfl | decide +kernel)
    (case kB => first | k_is | rfl | decide +kernel)
    (case eB => first | k_is | rfl | decide +kernel)
    (case tB => first | k_is | rfl | decide +kernel)
    (case hB => first | k_is | rfl | decide +kernel)
    (case iB => first | k_is | rfl | decide +kernel)
    (case sB => first | k_is | rfl | decide +kernel)
    (case icA => first | k_is | rfl | decide +kernel)
    (case icB => first | k_is | rfl | decide +kernel)
    (case icC => first | k_is | rfl | decide +kernel)
    (case icD => first | k_is | rfl | decide +kernel)
    (case z_isinstance => first | k_is | rfl | decide +kernel)
    (case z_len => first | k_is | rfl | decide +kernel)
    (case z_all => first | k_is | rfl | decide +kernel)
    (case z_any => first | k_is | rfl | decide +kernel)
    (case z_range => first | k_is | rfl | decide +kernel)
    (case z_sorted => first | k_is | rfl | decide +kernel)
    (case z_zip => first | k_is | rfl | decide +kernel)
    (case z_min => first | k_is | rfl | decide +kernel)
    (case z_str => first | k_is | rfl | decide +kernel)
    (case z_int => first | k_is | rfl | decide +kernel)
    (case z_bool => first | k_is | rfl | decide +kernel)
    (case z_list => first | k_is | rfl | decide +kernel)
    (case z_tuple => first | k_is | rfl | decide +kernel)
    (case z_dict => first | k_is | rfl | decide +kernel)
#print axioms PySem.Challenge.cw_doneornot_k27_plans_made_holds
end
