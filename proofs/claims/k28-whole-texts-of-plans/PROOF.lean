import PyProof.Rows.All
import Wide.All
import OpenK.AllK
import Wide.FinOn
import HandS.ForMost
import HandS.Exc
import HandS.ExcOwn
import HandS.ExcInit
import HandS.CallSlots
import HandS.TryMany
import HandS.IsInst
import HandS.Lambda
import HandS.TupAny
import HandS.Deep
import HandS.Style
import HandS.StrMore
import HandS.Conv
import HandS.TupLen
import KE.SortData
import HandS.ExcField
import HandS.WordsExc
import HandS.Zip
import HandS.Walk
import HandS.DictComp
import OpenK.KOps
import HandS.Rev
import PyProof.StrBlock2
import HandS.Defaults
import PyProof.ReprRoads
import HandS.EndOwn
import HandS.TupLe
import HandS.ExcValue
import HandS.ExcIs
import KE.KExcIs
import HandS.More
import HandS.FStr
import HandS.Iter
import HandS.Text
import PySem.Challenge.RW_doneornot_k28_whole_texts_of_plans
section
set_option Elab.async false
set_option linter.all false
set_option maxRecDepth 100000
set_option maxHeartbeats 4000000
/-! Plain data over the hand layer: a value and what it stands for. -/
namespace DL
open PySem PySem.Spec PyProof.Rows L2

/-- plain data -/
inductive D where
  | non | bl (b : Bool) | int (i : Int) | str (x : Str)
  | tup (xs : List D) | lst (xs : List D) | dK (kvs : List (D × D)) | dT (kvs : List (D × D))
  | ins (C : Addr) (fs : List (Str × D)) | raw (v : V) | exc (a dd C : Addr) (fs : List (Str × D))
  | cl (a : Addr) (R : Hp → Prop)

def keyD : Key → D
  | .inl i => .int i
  | .inr x => .str x

/-- a tuple stands at a: made by the program (or written, and empty) -/
def TupAt (K : PySem.W.Frag) (H : Hp) (a : Addr) (vs : List V) : Prop := H a = some (.tup vs) ∨ (vs = [] ∧ SqT K H a [])
mutual
/-- v stands for d -/
inductive Is (K : PySem.W.Frag) (H : Hp) : V → D → Prop
  | non : Is K H .non .non
  | bl (b : Bool) : Is K H (.bl b) (.bl b)
  | int (i : Int) : Is K H (.int i) (.int i)
  | str (x : Str) : Is K H (.str x) (.str x)
  | tup {a : Addr} {vs : List V} {ds : List D} : TupAt K H a vs → IsA K H vs ds → Is K H (.ref a) (.tup ds)
  | lst {a : Addr} {vs : List V} {ds : List D} : H a = some (.lst vs) → IsA K H vs ds → Is K H (.ref a) (.lst ds)
  | dK {a : Addr} {ks : List (Key × V)} {ds : List (D × D)} : H a = some (.dK ks) → IsK K H ks ds → Is K H (.ref a) (.dK ds)
  | dT {a : Addr} {ks : List (List Key × V)} {ds : List (D × D)} : H a = some (.dT ks) → IsT K H ks ds → Is K H (.ref a) (.dT ds)
  | ins {a C dx : Addr} {fs : List (Str × V)} {ds : List (Str × D)} : H a = some (.ins C dx fs) → IsF K H fs ds → Is K H (.ref a) (.ins C ds)
  | raw (v : V) : Is K H v (.raw v)
  | exc {a dd C : Addr} {fs : List (Str × V)} {ds : List (Str × D)} : H dd = some (.xd fs) → IsF K H fs ds → Is K H (.ref a) (.exc a dd C ds)
  | cl {a : Addr} {R : Hp → Prop} : (∀ H1 : Hp, Same H H1 → R H1) → Is K H (.ref a) (.cl a R)
inductive IsA (K : PySem.W.Frag) (H : Hp) : List V → List D → Prop
  | nil : IsA K H [] []
  | cons {v : V} {d : D} {vs : List V} {ds : List D} : Is K H v d → IsA K H vs ds → IsA K H (v :: vs) (d :: ds)
inductive IsK (K : PySem.W.Frag) (H : Hp) : List (Key × V) → List (D × D) → Prop
  | nil : IsK K H [] []
  | cons {k : Key} {v : V} {d : D} {vs : List (Key × V)} {ds : List (D × D)} : Is K H v d → IsK K H vs ds → IsK K H ((k, v) :: vs) ((keyD k, d) :: ds)
inductive IsT (K : PySem.W.Frag) (H : Hp) : List (List Key × V) → List (D × D) → Prop
  | nil : IsT K H [] []
  | cons {k : List Key} {v : V} {d : D} {vs : List (List Key × V)} {ds : List (D × D)} : Is K H v d → IsT K H vs ds → IsT K H ((k, v) :: vs) ((.tup (k.map keyD), d) :: ds)
inductive IsF (K : PySem.W.Frag) (H : Hp) : List (Str × V) → List (Str × D) → Prop
  | nil : IsF K H [] []
  | cons {k : Str} {v : V} {d : D} {vs : List (Str × V)} {ds : List (Str × D)} : Is K H v d → IsF K H vs ds → IsF K H ((k, v) :: vs) ((k, d) :: ds)
end

section
variable {K : PySem.W.Frag} {H H' : Hp}
theorem same_rd {a : Addr} {u : HO} (e : Same H H') (h : Rd H a u) : Rd H' a u := by
  rcases h with h | ⟨o, h⟩
  · exact .inl (e _ _ h)
  · exact .inr ⟨o, e _ _ h⟩
theorem same_sq {a : Addr} {xs : List V} (e : Same H H') (h : SqT K H a xs) : SqT K H' a xs := by
  rcases h with h | h
  · exact .inl (same_rd e h)
  · exact .inr h
theorem same_ta {a : Addr} {xs : List V} (e : Same H H') (h : TupAt K H a xs) : TupAt K H' a xs := by
  rcases h with h | ⟨h, t⟩
  · exact .inl (e _ _ h)
  · exact .inr ⟨h, same_sq e t⟩
theorem same_t {a : Addr} {xs : List V} (e : Same H H') (h : TupAt K H a xs) : SqT K H' a xs := by
  rcases h with h | ⟨h, t⟩
  · exact SqT.of (e _ _ h)
  · subst h
    exact same_sq e t
theorem same_upd {a : Addr} {o : HO} (h : H a = none) : Same H (upd H a o) := fun b u e => by
  rw [upd_ne (ne_of_none e h)]
  exact e
mutual
theorem Is.mono (e : Same H H') : ∀ {v : V} {d : D}, Is K H v d → Is K H' v d
  | _, _, .non => .non
  | _, _, .bl b => .bl b
  | _, _, .int i => .int i
  | _, _, .str x => .str x
  | _, _, .tup h a => .tup (same_ta e h) (IsA.mono e a)
  | _, _, .lst h a => .lst (e _ _ h) (IsA.mono e a)
  | _, _, .dK h a => .dK (e _ _ h) (IsK.mono e a)
  | _, _, .dT h a => .dT (e _ _ h) (IsT.mono e a)
  | _, _, .ins h a => .ins (e _ _ h) (IsF.mono e a)
  | _, _, .raw v => .raw v
  | _, _, .exc h a => .exc (e _ _ h) (IsF.mono e a)
  | _, _, .cl r => .cl fun H' e' => r H' (e.trans e')
theorem IsA.mono (e : Same H H') : ∀ {vs : List V} {ds : List D}, IsA K H vs ds → IsA K H' vs ds
  | _, _, .nil => .nil
  | _, _, .cons a b => .cons (Is.mono e a) (IsA.mono e b)
theorem IsK.mono (e : Same H H') : ∀ {vs : List (Key × V)} {ds : List (D × D)}, IsK K H vs ds → IsK K H' vs ds
  | _, _, .nil => .nil
  | _, _, .cons a b => .cons (Is.mono e a) (IsK.mono e b)
theorem IsT.mono (e : Same H H') : ∀ {vs : List (List Key × V)} {ds : List (D × D)}, IsT K H vs ds → IsT K H' vs ds
  | _, _, .nil => .nil
  | _, _, .cons a b => .cons (Is.mono e a) (IsT.mono e b)
theorem IsF.mono (e : Same H H') : ∀ {vs : List (Str × V)} {ds : List (Str × D)}, IsF K H vs ds → IsF K H' vs ds
  | _, _, .nil => .nil
  | _, _, .cons a b => .cons (Is.mono e a) (IsF.mono e b)
end
theorem IsA.length : ∀ {vs : List V} {ds : List D}, IsA K H vs ds → vs.length = ds.length
  | _, _, .nil => rfl
  | _, _, .cons _ b => by rw [List.length_cons, List.length_cons, IsA.length b]
theorem IsA.get : ∀ {vs : List V} {ds : List D} {i : Nat} {d : D}, IsA K H vs ds → ds[i]? = some d → ∃ v, vs[i]? = some v ∧ Is K H v d
  | _, _, _, _, .nil, e => by simp at e
  | _, _, 0, _, .cons a _, e => by simp at e; subst e; exact ⟨_, rfl, a⟩
  | _, _, i + 1, d, .cons _ b, e => by
    obtain ⟨v, h1, h2⟩ := IsA.get (i := i) (d := d) b (by simpa using e)
    exact ⟨v, by simpa using h1, h2⟩
theorem IsA.get' : ∀ {vs : List V} {ds : List D} {i : Nat} {v : V}, IsA K H vs ds → vs[i]? = some v → ∃ d, ds[i]? = some d ∧ Is K H v d
  | _, _, _, _, .nil, e => by simp at e
  | _, _, 0, _, .cons a _, e => by simp at e; subst e; exact ⟨_, rfl, a⟩
  | _, _, i + 1, v, .cons _ b, e => by
    obtain ⟨d, h1, h2⟩ := IsA.get' (i := i) (v := v) b (by simpa using e)
    exact ⟨d, by simpa using h1, h2⟩
theorem IsA.append : ∀ {vs : List V} {ds : List D} {us : List V} {es : List D}, IsA K H vs ds → IsA K H us es → IsA K H (vs ++ us) (ds ++ es)
  | _, _, _, _, .nil, h => h
  | _, _, _, _, .cons a b, h => .cons a (IsA.append b h)
theorem IsA.take : ∀ {vs : List V} {ds : List D} (n : Nat), IsA K H vs ds → IsA K H (vs.take n) (ds.take n)
  | _, _, 0, _ => .nil
  | _, _, _ + 1, .nil => .nil
  | _, _, n + 1, .cons a b => .cons a (IsA.take n b)
theorem IsA.drop : ∀ {vs : List V} {ds : List D} (n : Nat), IsA K H vs ds → IsA K H (vs.drop n) (ds.drop n)
  | _, _, 0, h => h
  | _, _, _ + 1, .nil => .nil
  | _, _, n + 1, .cons _ b => IsA.drop n b
theorem IsA.set {v : V} {d : D} (r : Is K H v d) : ∀ {vs : List V} {ds : List D} (i : Nat), IsA K H vs ds → IsA K H (vs.set i v) (ds.set i d)
  | _, _, _, .nil => .nil
  | _, _, 0, .cons _ b => .cons r b
  | _, _, i + 1, .cons a b => .cons a (IsA.set r i b)
theorem IsA.erase : ∀ {vs : List V} {ds : List D} (i : Nat), IsA K H vs ds → IsA K H (vs.eraseIdx i) (ds.eraseIdx i)
  | _, _, _, .nil => .nil
  | _, _, 0, .cons _ b => b
  | _, _, i + 1, .cons a b => .cons a (IsA.erase i b)
theorem IsF.get : ∀ {fs : List (Str × V)} {ds : List (Str × D)} {f : Str} {d : D}, IsF K H fs ds → ds.lookup f = some d → ∃ v, fs.lookup f = some v ∧ Is K H v d
  | _, _, _, _, .nil, e => by simp at e
  | _, _, f, d, .cons (k := k) a b, e => by
    rw [List.lookup_cons] at e ⊢
    cases h : (f == k) with
    | true =>
      rw [h] at e
      simp only at e ⊢
      cases e
      exact ⟨_, rfl, a⟩
    | false =>
      rw [h] at e
      exact IsF.get b e
theorem IsF.none : ∀ {fs : List (Str × V)} {ds : List (Str × D)} {f : Str}, IsF K H fs ds → ds.lookup f = Option.none → fs.lookup f = Option.none
  | _, _, _, .nil, e => rfl
  | _, _, f, .cons (k := k) a b, e => by
    rw [List.lookup_cons] at e ⊢
    cases h : (f == k) with
    | true =>
      rw [h] at e
      cases e
    | false =>
      rw [h] at e
      exact IsF.none b e
/-- a field stored, in its place or at the end -/
def putD (f : Str) (d : D) : List (Str × D) → List (Str × D)
  | [] => [(f, d)]
  | (g, x) :: r => if g = f then (g, d) :: r else (g, x) :: putD f d r
theorem IsF.put {f : Str} {y : V} {d : D} (r : Is K H y d) : ∀ {fs : List (Str × V)} {ds : List (Str × D)}, IsF K H fs ds → IsF K H (putF f y fs) (putD f d ds)
  | _, _, .nil => .cons r .nil
  | _, _, .cons (k := k) (v := x) (d := z) (vs := vs) (ds := ds) a b => by
    show IsF K H (if k = f then (k, y) :: vs else (k, x) :: putF f y vs) (if k = f then (k, d) :: ds else (k, z) :: putD f d ds)
    by_cases h : k = f
    · rw [if_pos h, if_pos h]
      exact .cons r b
    · rw [if_neg h, if_neg h]
      exact .cons a (IsF.put r b)
theorem IsF.length : ∀ {fs : List (Str × V)} {ds : List (Str × D)}, IsF K H fs ds → fs.length = ds.length
  | _, _, .nil => rfl
  | _, _, .cons _ b => by rw [List.length_cons, List.length_cons, IsF.length b]
theorem IsK.length : ∀ {fs : List (Key × V)} {ds : List (D × D)}, IsK K H fs ds → fs.length = ds.length
  | _, _, .nil => rfl
  | _, _, .cons _ b => by rw [List.length_cons, List.length_cons, IsK.length b]
theorem IsT.length : ∀ {fs : List (List Key × V)} {ds : List (D × D)}, IsT K H fs ds → fs.length = ds.length
  | _, _, .nil => rfl
  | _, _, .cons _ b => by rw [List.length_cons, List.length_cons, IsT.length b]
end
end DL
end

section
set_option Elab.async false
set_option linter.all false
set_option maxRecDepth 100000
set_option maxHeartbeats 4000000
/-! Cells that may change, the state of a body, what runs. -/
namespace DL
open PySem PySem.Spec PyProof.Rows L2

/-- a cell: an object that may change -/
inductive Cell where
  | lst (ds : List D) | dK (kvs : List (D × D)) | dT (kvs : List (D × D)) | ins (C : Addr) (fs : List (Str × D)) | pen (n : Nat) | tab (q : Str)
abbrev Mem := List (Addr × Cell)

/-- the pen: at p; n draws are left -/
def PenAt (K : PySem.W.Frag) (Hn H : Hp) (p : Addr) (n : Nat) : Prop :=
  ∃ (c : Addr) (ns : List Int) (at' dg ct fo : Int), H p = some (.dK [(.inr "cells", .ref c), (.inr "at", .int at'), (.inr "digits", .int dg), (.inr "count", .int ct), (.inr "fold", .int fo)]) ∧
    SqL K Hn c (ns.map V.int) ∧ 0 ≤ at' ∧ 0 ≤ dg ∧ 0 ≤ ct ∧ 0 ≤ fo ∧ fo < 3000000000 ∧ ct + n ≤ 1000000000000
def CellOk (K : PySem.W.Frag) (Hn H : Hp) (a : Addr) : Cell → Prop
  | .lst ds => ∃ vs, H a = some (.lst vs) ∧ IsA K Hn vs ds
  | .dK kvs => ∃ ks, H a = some (.dK ks) ∧ IsK K Hn ks kvs
  | .dT kvs => ∃ ks, H a = some (.dT ks) ∧ IsT K Hn ks kvs
  | .ins C fs => ∃ dx vs, H a = some (.ins C dx vs) ∧ IsF K Hn vs fs
  | .pen n => PenAt K Hn H a n
  | .tab q => ∃ ps : Array Value, H a = some (.tbl ps) ∧ TriplesOk ps.toList ∧ ∀ (pos : Pos) (cv : Value), codeAmong pos ps.toList = some cv → ∃ c, cv = .ref c ∧ Hn c = some (LamX.CodeO c q)
section
variable {K : PySem.W.Frag} {Hn H Hn' H' : Hp} {a : Addr} {c : Cell} {o : HO}
theorem CellOk.there (h : CellOk K Hn H a c) : ∃ o, H a = some o := by
  cases c with
  | lst ds => obtain ⟨_, h, _⟩ := h; exact ⟨_, h⟩
  | dK ds => obtain ⟨_, h, _⟩ := h; exact ⟨_, h⟩
  | dT ds => obtain ⟨_, h, _⟩ := h; exact ⟨_, h⟩
  | ins C fs => obtain ⟨_, _, h, _⟩ := h; exact ⟨_, h⟩
  | pen n => obtain ⟨_, _, _, _, _, _, h, _⟩ := h; exact ⟨_, h⟩
  | tab q => obtain ⟨_, h, _⟩ := h; exact ⟨_, h⟩
theorem CellOk.mono (h : CellOk K Hn H a c) (en : Same Hn Hn') (e : H' a = H a) : CellOk K Hn' H' a c := by
  cases c with
  | lst ds => obtain ⟨_, h, r⟩ := h; exact ⟨_, e.trans h, r.mono en⟩
  | dK ds => obtain ⟨_, h, r⟩ := h; exact ⟨_, e.trans h, r.mono en⟩
  | dT ds => obtain ⟨_, h, r⟩ := h; exact ⟨_, e.trans h, r.mono en⟩
  | ins C fs => obtain ⟨_, _, h, r⟩ := h; exact ⟨_, _, e.trans h, r.mono en⟩
  | pen n =>
    obtain ⟨c, ns, at', dg, ct, fo, h, r, z⟩ := h
    exact ⟨c, ns, at', dg, ct, fo, e.trans h, en.seq r, z⟩
  | tab q =>
    obtain ⟨ps, h, t, z⟩ := h
    refine ⟨ps, e.trans h, t, fun pos cv hc => ?_⟩
    obtain ⟨c, e1, e2⟩ := z pos cv hc
    exact ⟨c, e1, en _ _ e2⟩
end

structure Rep (K : PySem.W.Frag) (M : Mem) (Hn H : Hp) : Prop where
  sub : Same Hn H
  cell : ∀ p ∈ M, Hn p.1 = none ∧ CellOk K Hn H p.1 p.2
  nd : (M.map (·.1)).Nodup
/-- free, or a tuple: it may come to be known -/
def Fre (H : Hp) (a : Addr) : Prop := H a = none ∨ ∃ xs, H a = some (.tup xs)
theorem CellOk.notTup {K : PySem.W.Frag} {Hn H : Hp} {a : Addr} {c : Cell} (h : CellOk K Hn H a c) (xs : List V) : H a ≠ some (.tup xs) := fun e => by
  cases c with
  | lst ds => obtain ⟨_, h, _⟩ := h; rw [h] at e; cases e
  | dK ds => obtain ⟨_, h, _⟩ := h; rw [h] at e; cases e
  | dT ds => obtain ⟨_, h, _⟩ := h; rw [h] at e; cases e
  | ins C fs => obtain ⟨_, _, h, _⟩ := h; rw [h] at e; cases e
  | pen n => obtain ⟨_, _, _, _, _, _, h, _⟩ := h; rw [h] at e; cases e
  | tab q => obtain ⟨_, h, _⟩ := h; rw [h] at e; cases e
/-- from one state to a later one, in which what stands in A may have changed -/
structure Step (A : List Addr) (Hn H Hn' H' : Hp) : Prop where
  nn : Same Hn Hn'
  keep : ∀ a o, a ∉ A → H a = some o → H' a = some o
  there : ∀ a, H a ≠ none → H' a ≠ none
  new : ∀ a, Hn a = none → Hn' a ≠ none → Fre H a
  nt : ∀ a xs, H' a = some (.tup xs) → H a = none ∨ H a = some (.tup xs)
theorem Step.refl {A : List Addr} {Hn H : Hp} : Step A Hn H Hn H := ⟨Same.refl _, fun _ _ _ e => e, fun _ e => e, fun _ e n => absurd e n, fun _ _ e => .inr e⟩
theorem Step.back {A : List Addr} {Hn H Hn1 H1 : Hp} (a : Step A Hn H Hn1 H1) {c : Addr} (h : H1 c = none) : H c = none := by
  cases w : H c with
  | none => rfl
  | some o => exact absurd h (a.there c (by rw [w]; simp))
theorem Step.fre {A : List Addr} {Hn H Hn1 H1 : Hp} (a : Step A Hn H Hn1 H1) {c : Addr} (h : Fre H1 c) : Fre H c := by
  rcases h with h | ⟨xs, h⟩
  · exact .inl (a.back h)
  · exact (a.nt c xs h).imp id fun h => ⟨xs, h⟩
theorem Step.trans {A : List Addr} {Hn H Hn1 H1 Hn2 H2 : Hp} (a : Step A Hn H Hn1 H1) (b : Step A Hn1 H1 Hn2 H2) : Step A Hn H Hn2 H2 := by
  refine ⟨a.nn.trans b.nn, fun c o hc e => b.keep c o hc (a.keep c o hc e), fun c e => b.there c (a.there c e), fun c e n => ?_, fun c xs e => ?_⟩
  · cases q : Hn1 c with
    | none => exact a.fre (b.new c q n)
    | some o => exact a.new c e (by rw [q]; simp)
  · rcases b.nt c xs e with h | h
    · exact .inl (a.back h)
    · exact a.nt c xs h

/-- the entry of a body: what was data, all, which cells may change -/
structure Bas where
  Hn : Hp
  H : Hp
  A : List Addr
abbrev Sl := List (Option D)
/-- the state within a body -/
structure SR (K : PySem.W.Frag) (B : Bas) (M : Mem) (Γ : Sl) (Hn H : Hp) (σ : L2.St) : Prop where
  rep : Rep K M Hn H
  step : Step B.A B.Hn B.H Hn H
  loc : ∀ p ∈ M, p.1 ∈ B.A ∨ B.H p.1 = none
  pre : B.A <+: M.map (·.1)
  sl : ∀ (i : Nat) (d : D), Γ[i]? = some (some d) → ∃ v, σ[i]? = some (some v) ∧ Is K Hn v d

theorem erase_map {α β : Type} (f : α → β) : ∀ (l : List α) (k : Nat), (l.eraseIdx k).map f = (l.map f).eraseIdx k
  | [], _ => rfl
  | _ :: _, 0 => rfl
  | x :: l, k + 1 => by
    show f x :: (l.eraseIdx k).map f = f x :: (l.map f).eraseIdx k
    rw [erase_map f l k]
section
variable {K : PySem.W.Frag} {B : Bas} {M : Mem} {Γ : Sl} {Hn H : Hp} {σ : L2.St} {a : Addr} {o : HO}
theorem Rep.nn (R : Rep K M Hn H) (h : H a = none) : Hn a = none := R.sub.free h
theorem Rep.ne (R : Rep K M Hn H) {p : Addr × Cell} (hp : p ∈ M) (h : H a = none) : p.1 ≠ a := by
  obtain ⟨o, e⟩ := (R.cell p hp).2.there
  exact ne_of_none e h
/-- a new object, data -/
theorem Rep.alloc (R : Rep K M Hn H) (h : H a = none) : Rep K M (upd Hn a o) (upd H a o) := by
  have hn := R.nn h
  refine ⟨fun b u e => ?_, fun p hp => ?_, R.nd⟩
  · by_cases hb : b = a
    · subst hb
      rw [upd_same] at e ⊢
      exact e
    · rw [upd_ne hb] at e ⊢
      exact R.sub b u e
  · have ne := R.ne hp h
    obtain ⟨h1, h2⟩ := R.cell p hp
    exact ⟨by rw [upd_ne ne]; exact h1, h2.mono (same_upd hn) (upd_ne ne)⟩
theorem Step.alloc {A : List Addr} (hn : Hn a = none) (h : H a = none) : Step A Hn H (upd Hn a o) (upd H a o) := by
  refine ⟨same_upd hn, fun b u _ e => by rw [upd_ne (ne_of_none e h)]; exact e, fun b e z => ?_, fun b e n => ?_, fun b xs e => ?_⟩
  · by_cases hb : b = a
    · rw [hb, upd_same] at z
      cases z
    · rw [upd_ne hb] at z
      exact e z
  · by_cases hb : b = a
    · rw [hb]
      exact .inl h
    · rw [upd_ne hb] at n
      exact absurd e n
  · by_cases hb : b = a
    · rw [hb]
      exact .inl h
    · rw [upd_ne hb] at e
      exact .inr e
theorem SR.alloc (S : SR K B M Γ Hn H σ) (h : H a = none) : SR K B M Γ (upd Hn a o) (upd H a o) σ := by
  have hn := S.rep.nn h
  refine ⟨S.rep.alloc h, S.step.trans (Step.alloc hn h), S.loc, S.pre, fun i d e => ?_⟩
  obtain ⟨v, h1, h2⟩ := S.sl i d e
  exact ⟨v, h1, h2.mono (same_upd hn)⟩
/-- a new object, not data (an instance's own dict, a cell to be) -/
theorem Rep.allocH (R : Rep K M Hn H) (h : H a = none) : Rep K M Hn (upd H a o) :=
  ⟨R.sub.trans (same_upd h), fun p hp => ⟨(R.cell p hp).1, (R.cell p hp).2.mono (Same.refl _) (upd_ne (R.ne hp h))⟩, R.nd⟩
theorem Step.allocH {A : List Addr} (h : H a = none) : Step A Hn H Hn (upd H a o) := by
  refine ⟨Same.refl _, fun b u _ e => by rw [upd_ne (ne_of_none e h)]; exact e, fun b e z => ?_, fun b e n => absurd e n, fun b xs e => ?_⟩
  · by_cases hb : b = a
    · rw [hb, upd_same] at z
      cases z
    · rw [upd_ne hb] at z
      exact e z
  · by_cases hb : b = a
    · rw [hb]
      exact .inl h
    · rw [upd_ne hb] at e
      exact .inr e
theorem SR.allocH (S : SR K B M Γ Hn H σ) (h : H a = none) : SR K B M Γ Hn (upd H a o) σ :=
  ⟨S.rep.allocH h, S.step.trans (Step.allocH h), S.loc, S.pre, S.sl⟩
/-- what stood at the entry -/
theorem SR.old (S : SR K B M Γ Hn H σ) (h : H a = none) : B.H a = none := by
  cases q : B.H a with
  | none => rfl
  | some o => exact absurd h (S.step.there a (by rw [q]; simp))
/-- a new cell -/
theorem SR.cell {c : Cell} (S : SR K B M Γ Hn H σ) (h : H a = none) (hc : CellOk K Hn (upd H a o) a c) : SR K B (M ++ [(a, c)]) Γ Hn (upd H a o) σ := by
  have S1 := S.allocH (o := o) h
  refine ⟨⟨S1.rep.sub, fun p hp => ?_, ?_⟩, S1.step, fun p hp => ?_, ?_, S1.sl⟩
  · rcases List.mem_append.mp hp with hp | hp
    · exact S1.rep.cell p hp
    · have e := List.mem_singleton.mp hp
      subst e
      exact ⟨S.rep.nn h, hc⟩
  · rw [List.map_append]
    refine List.nodup_append.mpr ⟨S.rep.nd, by simp, fun x hx y hy => ?_⟩
    obtain ⟨p, hp, rfl⟩ := List.mem_map.mp hx
    have e : y = a := by simpa using hy
    subst e
    exact S.rep.ne hp h
  · rcases List.mem_append.mp hp with hp | hp
    · exact S.loc p hp
    · have e := List.mem_singleton.mp hp
      subst e
      exact .inr (S.old h)
  · rw [List.map_append]
    exact S.pre.trans (List.prefix_append _ _)
/-- more is known of fewer slots -/
theorem SR.slots {Γ' : Sl} {σ' : L2.St} (S : SR K B M Γ Hn H σ) (h : ∀ (i : Nat) (d : D), Γ'[i]? = some (some d) → ∃ v, σ'[i]? = some (some v) ∧ Is K Hn v d) : SR K B M Γ' Hn H σ' := ⟨S.rep, S.step, S.loc, S.pre, h⟩
theorem SR.none {σ' : L2.St} (S : SR K B M Γ Hn H σ) : SR K B M [] Hn H σ' := S.slots fun i d e => by simp at e
theorem SR.set {v : V} {d : D} {i : Nat} (S : SR K B M Γ Hn H σ) (hi : i < σ.length) (r : Is K Hn v d) : SR K B M (Γ.set i (some d)) Hn H (σ.set i (some v)) := S.slots fun j e q => by
  by_cases hj : i = j
  · subst hj
    rw [List.getElem?_set] at q
    rw [if_pos rfl] at q
    split at q
    · cases q
      exact ⟨v, by rw [List.getElem?_set_self hi], r⟩
    · cases q
  · rw [List.getElem?_set_ne hj] at q
    rw [List.getElem?_set_ne hj]
    exact S.sl j e q
/-- a cell changed -/
theorem SR.put {c c' : Cell} {k : Nat} {a : Addr} (S : SR K B M Γ Hn H σ) (hk : M[k]? = some (a, c)) (hc : CellOk K Hn (upd H a o) a c') : SR K B (M.set k (a, c')) Γ Hn (upd H a o) σ := by
  have hm : (a, c) ∈ M := List.mem_of_getElem? hk
  obtain ⟨hn, hcell⟩ := S.rep.cell _ hm
  have hn : Hn a = Option.none := hn
  have hlt := (List.getElem?_eq_some_iff.mp hk).1
  have hmap : (M.set k (a, c')).map (·.1) = M.map (·.1) := by
    rw [List.map_set]
    refine List.ext_getElem? fun j => ?_
    by_cases hj : k = j
    · subst hj
      rw [List.getElem?_set_self (by simpa using hlt), List.getElem?_map, hk]
      rfl
    · rw [List.getElem?_set_ne hj]
  have nds := S.rep.nd
  have same : ∀ b : Addr, b ≠ a → upd H a o b = H b := fun b hb => upd_ne hb
  obtain ⟨ob, hob⟩ := hcell.there
  refine ⟨⟨fun b u e => ?_, fun p hp => ?_, by rw [hmap]; exact nds⟩, ⟨S.step.nn, fun b u hb e => ?_, fun b z => ?_, S.step.new, fun b xs e => ?_⟩, fun p hp => ?_, by rw [hmap]; exact S.pre, S.sl⟩
  · have hb : b ≠ a := fun z => by rw [z, hn] at e; cases e
    rw [same b hb]
    exact S.rep.sub b u e
  · obtain ⟨j, hj⟩ := List.getElem?_of_mem hp
    by_cases hkj : k = j
    · subst hkj
      rw [List.getElem?_set_self hlt] at hj
      cases hj
      exact ⟨hn, hc⟩
    · rw [List.getElem?_set_ne hkj] at hj
      have hpM := List.mem_of_getElem? hj
      have ne : p.1 ≠ a := fun e => by
        have h1 : (M.map (·.1))[j]? = some p.1 := by rw [List.getElem?_map, hj]; rfl
        have h2 : (M.map (·.1))[k]? = some a := by rw [List.getElem?_map, hk]; rfl
        rw [e] at h1
        exact hkj (nd_ix nds h2 h1)
      exact ⟨(S.rep.cell p hpM).1, (S.rep.cell p hpM).2.mono (Same.refl _) (same _ ne)⟩
  · have hb' : b ≠ a := fun z => by
      subst z
      rcases S.loc _ hm with q | q
      · exact hb q
      · have q' : B.H b = Option.none := q
        rw [q'] at e
        cases e
    rw [same b hb']
    exact S.step.keep b u hb e
  · by_cases hb : b = a
    · intro q
      rw [hb, upd_same] at q
      cases q
    · rw [same b hb]
      exact S.step.there b z
  · by_cases hb : b = a
    · rw [hb] at e
      exact absurd e (hc.notTup xs)
    · rw [same b hb] at e
      exact S.step.nt b xs e
  · obtain ⟨j, hj⟩ := List.getElem?_of_mem hp
    by_cases hkj : k = j
    · subst hkj
      rw [List.getElem?_set_self hlt] at hj
      cases hj
      exact S.loc (a, c) hm
    · rw [List.getElem?_set_ne hkj] at hj
      exact S.loc p (List.mem_of_getElem? hj)
/-- a local cell becomes data -/
theorem SR.toData {c : Cell} {k : Nat} {a : Addr} (S : SR K B M Γ Hn H σ) (hk : M[k]? = some (a, c)) (ho : H a = some o) (hz : B.A.length ≤ k) : SR K B (M.eraseIdx k) Γ (upd Hn a o) H σ := by
  have hm : (a, c) ∈ M := List.mem_of_getElem? hk
  obtain ⟨hn, hcell⟩ := S.rep.cell _ hm
  have hn : Hn a = Option.none := hn
  have hlt := (List.getElem?_eq_some_iff.mp hk).1
  have h0 : B.H a = Option.none := by
    rcases S.loc _ hm with q | q
    · obtain ⟨r, hr⟩ := S.pre
      have q' : a ∈ B.A := q
      obtain ⟨j, hj⟩ := List.getElem?_of_mem q'
      have hj2 := (List.getElem?_eq_some_iff.mp hj).1
      have h1 : (M.map (·.1))[j]? = some a := by rw [← hr, List.getElem?_append_left hj2]; exact hj
      have h2 : (M.map (·.1))[k]? = some a := by rw [List.getElem?_map, hk]; rfl
      have := nd_ix S.rep.nd h1 h2
      omega
    · exact q
  have sn := same_upd (o := o) hn
  refine ⟨⟨fun b u e => ?_, fun p hp => ?_, ?_⟩, ⟨S.step.nn.trans sn, S.step.keep, S.step.there, fun b e n => ?_, S.step.nt⟩, fun p hp => S.loc p (List.mem_of_mem_eraseIdx hp), ?_, fun j e q => ?_⟩
  · by_cases hb : b = a
    · rw [hb, upd_same] at e
      cases e
      rw [hb]
      exact ho
    · rw [upd_ne hb] at e
      exact S.rep.sub b u e
  · have hpM := List.mem_of_mem_eraseIdx hp
    have ne : p.1 ≠ a := fun e => by
      obtain ⟨j, hj⟩ := List.getElem?_of_mem hp
      have h2 : (M.map (·.1))[k]? = some a := by rw [List.getElem?_map, hk]; rfl
      rw [List.getElem?_eraseIdx] at hj
      split at hj
      · have h1 : (M.map (·.1))[j]? = some p.1 := by rw [List.getElem?_map, hj]; rfl
        rw [e] at h1
        have := nd_ix S.rep.nd h1 h2
        omega
      · have h1 : (M.map (·.1))[j + 1]? = some p.1 := by rw [List.getElem?_map, hj]; rfl
        rw [e] at h1
        have := nd_ix S.rep.nd h1 h2
        omega
    exact ⟨by rw [upd_ne ne]; exact (S.rep.cell p hpM).1, (S.rep.cell p hpM).2.mono sn rfl⟩
  · rw [erase_map]
    exact S.rep.nd.sublist (List.eraseIdx_sublist _ _)
  · by_cases hb : b = a
    · rw [hb]
      exact .inl h0
    · rw [upd_ne hb] at n
      exact S.step.new b e n
  · obtain ⟨r, hr⟩ := S.pre
    rw [erase_map, ← hr, List.eraseIdx_append_of_length_le hz]
    exact List.prefix_append _ _
  · obtain ⟨v, h1, h2⟩ := S.sl j e q
    exact ⟨v, h1, h2.mono sn⟩
/-- a slot of raw a holds what stands for d -/
theorem SR.retype {a : Addr} {i : Nat} {d : D} (S : SR K B M Γ Hn H σ) (hs : Γ[i]? = some (some (.raw (.ref a)))) (hd : Is K Hn (.ref a) d) : SR K B M (Γ.set i (some d)) Hn H σ := S.slots fun j e q => by
  by_cases hj : i = j
  · subst hj
    have hi : i < Γ.length := (List.getElem?_eq_some_iff.mp hs).1
    rw [List.getElem?_set_self hi] at q
    cases q
    obtain ⟨v, h1, h2⟩ := S.sl i _ hs
    cases h2
    exact ⟨_, h1, hd⟩
  · rw [List.getElem?_set_ne hj] at q
    exact S.sl j e q
/-- a local cell is forgotten -/
theorem SR.drop {k : Nat} (S : SR K B M Γ Hn H σ) (hz : B.A.length ≤ k) : SR K B (M.eraseIdx k) Γ Hn H σ := by
  refine ⟨⟨S.rep.sub, fun p hp => S.rep.cell p (List.mem_of_mem_eraseIdx hp), ?_⟩, S.step, fun p hp => S.loc p (List.mem_of_mem_eraseIdx hp), ?_, S.sl⟩
  · rw [erase_map]
    exact S.rep.nd.sublist (List.eraseIdx_sublist _ _)
  · obtain ⟨r, hr⟩ := S.pre
    rw [erase_map, ← hr, List.eraseIdx_append_of_length_le hz]
    exact List.prefix_append _ _
theorem erase_last {α : Type} (l : List α) (x : α) : (l ++ [x]).eraseIdx l.length = l := by
  rw [List.eraseIdx_append_of_length_le (Nat.le_refl _), Nat.sub_self]
  simp
theorem SR.few (S : SR K B M Γ Hn H σ) : B.A.length ≤ M.length := by
  have := S.pre.length_le
  rw [List.length_map] at this
  exact this
/-- a tuple that stands is data -/
theorem SR.seen {b : Addr} {vs : List V} (S : SR K B M Γ Hn H σ) (hb : H b = some (.tup vs)) : ∃ Hn', SR K B M Γ Hn' H σ ∧ Same Hn Hn' ∧ Hn' b = some (.tup vs) := by
  cases q : Hn b with
  | some o =>
    have e := S.rep.sub b o q
    rw [hb] at e
    cases e
    exact ⟨Hn, S, Same.refl _, q⟩
  | none =>
    have sn := same_upd (o := .tup vs) q
    refine ⟨upd Hn b (.tup vs), ⟨⟨fun c u e => ?_, fun p hp => ⟨?_, (S.rep.cell p hp).2.mono sn rfl⟩, S.rep.nd⟩, ⟨S.step.nn.trans sn, S.step.keep, S.step.there, fun c e n => ?_, S.step.nt⟩, S.loc, S.pre, fun i d e => ?_⟩, sn, upd_same⟩
    · by_cases hc : c = b
      · rw [hc, upd_same] at e
        rw [hc, hb, e]
      · rw [upd_ne hc] at e
        exact S.rep.sub c u e
    · rw [upd_ne fun e => (S.rep.cell p hp).2.notTup vs (by rw [e]; exact hb)]
      exact (S.rep.cell p hp).1
    · by_cases hc : c = b
      · rw [hc]
        exact (S.step.nt b vs hb).imp id fun h => ⟨vs, h⟩
      · rw [upd_ne hc] at n
        exact S.step.new c e n
    · obtain ⟨v, h1, h2⟩ := S.sl i d e
      exact ⟨v, h1, h2.mono sn⟩
end
end DL
end

section
set_option Elab.async false
set_option linter.all false
set_option maxRecDepth 100000
set_option maxHeartbeats 4000000
/-! Judgements over plain data: expressions, tests, arguments. -/
namespace DL
open PySem PySem.Spec PyProof.Rows L2

def RunE (X : Cx) (e : Expr) (σ : L2.St) (H : Hp) (Q : VK) : Prop := ∀ pins s, Inv X pins σ H s → wpAny (model X.prog X.w) X.A (eval e X.env) (EP X pins σ Q) X.xe s
theorem pe_run {X : Cx} {e : Expr} : PE X e (RunE X e) := ⟨fun pins s σ H Q I h => h pins s I⟩
theorem run_pe {X : Cx} {e : Expr} {t : TE} (h : PE X e t) {σ : L2.St} {H : Hp} {Q : VK} (q : t σ H Q) : RunE X e σ H Q := fun pins s I => h.run pins s σ H Q I q
def RunT (X : Cx) (e : Expr) (σ : L2.St) (H : Hp) (Q : Bool → Hp → Prop) : Prop := ∀ pins s, Inv X pins σ H s → wpAny (model X.prog X.w) X.A (isTrue e X.env (eval e X.env)) (TP X pins σ Q) X.xe s
theorem pt_run {X : Cx} {e : Expr} : PT X e (RunT X e) := ⟨fun pins s σ H Q I h => h pins s I⟩
theorem run_pt {X : Cx} {e : Expr} {t : TT} (h : PT X e t) {σ : L2.St} {H : Hp} {Q : Bool → Hp → Prop} (q : t σ H Q) : RunT X e σ H Q := fun pins s I => h.run pins s σ H Q I q
def RunW (X : Cx) (e : Expr) (σ : L2.St) (H : Hp) (Q : Bool → Hp → Prop) : Prop := ∀ wh pins s, Inv X pins σ H s → wpAny (model X.prog X.w) X.A (isTrue e X.env wh) (TP X pins σ Q) X.xe s
theorem pw_run {X : Cx} {e : Expr} : PW X e (RunW X e) := ⟨fun wh pins s σ H Q I h => h wh pins s I⟩
theorem run_pw {X : Cx} {e : Expr} {t : TT} (h : PW X e t) {σ : L2.St} {H : Hp} {Q : Bool → Hp → Prop} (q : t σ H Q) : RunW X e σ H Q := fun wh pins s I => h.run wh pins s σ H Q I q
def RunA (X : Cx) (es : List Expr) (σ : L2.St) (H : Hp) (Q : List V → Hp → Prop) : Prop := ∀ pos pins s, Inv X pins σ H s → wpAny (model X.prog X.w) X.A (spliced (backTo pos (starEach es X.env))) (AP X pins σ Q) X.xe s
theorem pa_run {X : Cx} {es : List Expr} : PA X es (RunA X es) := ⟨fun pos pins s σ H Q I h => h pos pins s I⟩
theorem run_pa {X : Cx} {es : List Expr} {t : TA} (h : PA X es t) {σ : L2.St} {H : Hp} {Q : List V → Hp → Prop} (q : t σ H Q) : RunA X es σ H Q := fun pos pins s I => h.run pos pins s σ H Q I q

/-- an exception in the air with this class, dict, slots, heap is one that the body's end takes -/
def AirOk (X : Cx) (cls : Value) (d : Option Addr) (σ : L2.St) (H : Hp) : Prop := ∀ u s', XE X (fun c' d' σ' H' => c' = cls ∧ d' = d ∧ σ' = σ ∧ H' = H) u s' → X.xe u s'
theorem takes_air {X : Cx} : Takes X (fun c d σ H => AirOk X c d σ H) := fun u s' ⟨a, B, sI, pins, σ, H, cls, d, e, I, nb, up, sky, na, os, ag, w⟩ =>
  w u s' ⟨a, B, sI, pins, σ, H, cls, d, e, I, nb, up, sky, na, os, ag, rfl, rfl, rfl, rfl⟩
theorem air_of {X : Cx} {W : WX} (tk : Takes X W) {cls : Value} {d : Option Addr} {σ : L2.St} {H : Hp} (w : W cls d σ H) : AirOk X cls d σ H := fun u s' x =>
  (tk.imp (W' := fun c' d' σ' H' => c' = cls ∧ d' = d ∧ σ' = σ ∧ H' = H) fun c d' σ' H' ⟨e1, e2, e3, e4⟩ => by subst e1 e2 e3 e4; exact w) u s' x
/-- an exception: its class, its fields -/
abbrev Exn := Addr × List (Str × D)
def ExIs (K : PySem.W.Frag) (Hn : Hp) (cls : Value) (dd : Option Addr) (x : Exn) : Prop :=
  cls = .ref x.1 ∧ ((dd = none ∧ x.2 = []) ∨ ∃ d vs, dd = some d ∧ Hn d = some (.xd vs) ∧ IsF K Hn vs x.2)

/-- the wish about what leaves: of x, at the memory -/
abbrev XP := Exn → Mem → Prop
def Air (X : Cx) (B : Bas) (Γ : Sl) (Hn : Hp) (σ : L2.St) (Ψ : XP) : Prop := ∀ (x : Exn) M' Hn' H' cls dd, Ψ x M' → SR X.K B M' Γ Hn' H' σ → Same Hn Hn' → ExIs X.K Hn' cls dd x → AirOk X cls dd σ H'
theorem Air.mono {X : Cx} {B : Bas} {Γ : Sl} {Hn Hn' : Hp} {σ : L2.St} {Ψ : XP} (h : Air X B Γ Hn σ Ψ) (e : Same Hn Hn') : Air X B Γ Hn' σ Ψ := fun x M' Hn2 H' cls dd p S e2 => h x M' Hn2 H' cls dd p S (e.trans e2)

/-- e hands back data of which Φ holds -/
def JE (X : Cx) (Γ : Sl) (M : Mem) (e : Expr) (Φ : D → Mem → Prop) (Ψ : XP) : Prop :=
  ∀ B Hn H σ, SR X.K B M Γ Hn H σ → Air X B Γ Hn σ Ψ → ∀ Q : VK, (∀ v d M' Hn' H', Φ d M' → SR X.K B M' Γ Hn' H' σ → Same Hn Hn' → Is X.K Hn' v d → Q v H') → RunE X e σ H Q
def JT (X : Cx) (Γ : Sl) (M : Mem) (e : Expr) (Φ : Bool → Mem → Prop) (Ψ : XP) : Prop :=
  ∀ B Hn H σ, SR X.K B M Γ Hn H σ → Air X B Γ Hn σ Ψ → ∀ Q : Bool → Hp → Prop, (∀ b M' Hn' H', Φ b M' → SR X.K B M' Γ Hn' H' σ → Same Hn Hn' → Q b H') → RunT X e σ H Q
def JW (X : Cx) (Γ : Sl) (M : Mem) (e : Expr) (Φ : Bool → Mem → Prop) (Ψ : XP) : Prop :=
  ∀ B Hn H σ, SR X.K B M Γ Hn H σ → Air X B Γ Hn σ Ψ → ∀ Q : Bool → Hp → Prop, (∀ b M' Hn' H', Φ b M' → SR X.K B M' Γ Hn' H' σ → Same Hn Hn' → Q b H') → RunW X e σ H Q
def JA (X : Cx) (Γ : Sl) (M : Mem) (es : List Expr) (Φ : List D → Mem → Prop) (Ψ : XP) : Prop :=
  ∀ B Hn H σ, SR X.K B M Γ Hn H σ → Air X B Γ Hn σ Ψ → ∀ Q : List V → Hp → Prop, (∀ vs ds M' Hn' H', Φ ds M' → SR X.K B M' Γ Hn' H' σ → Same Hn Hn' → IsA X.K Hn' vs ds → Q vs H') → RunA X es σ H Q

section
variable {X : Cx} {Γ : Sl} {M : Mem} {Φ : D → Mem → Prop} {Ψ : XP} {a b c : Expr} {es : List Expr} {pos p pos2 : Pos} {Φb : Bool → Mem → Prop}
theorem JE.imp {e : Expr} {Φ' : D → Mem → Prop} (h : JE X Γ M e Φ Ψ) (i : ∀ d M', Φ d M' → Φ' d M') : JE X Γ M e Φ' Ψ := fun B Hn H σ S A Q q => h B Hn H σ S A Q fun v d M' Hn' H' p => q v d M' Hn' H' (i d M' p)

/-! ### names and constants -/
theorem je_var (i : Nat) {x : Str} {d : D} (hd' : Γ[i]? = some (some d)) (h : Φ d M) (hN : X.N[i]? = some x := by rfl) (hv : Vis X.env.scope x := by first | exact Or.inl rfl | exact Or.inr (Or.inl rfl) | exact Or.inr (Or.inr rfl))
    (hd : (x == ("__debug__" : Str)) = false := by decide) (hcd : (x == ("__classdict__" : Str)) = false := by decide) : JE X Γ M (.Name x pos) Φ Ψ := fun B Hn H σ S A Q q => by
  obtain ⟨v, h1, h2⟩ := S.sl i d hd'
  exact run_pe (pe_var hN hv hd hcd) ⟨v, h1, q v d M Hn H h S (Same.refl _) h2⟩
theorem je_int {i : Int} {j} (h : Φ (.int i) M) : JE X Γ M (.Constant (.int i) j pos) Φ Ψ := fun B Hn H σ S A Q q => run_pe pe_int (q _ _ M Hn H h S (Same.refl _) (.int i))
theorem je_bl {i : Bool} {j} (h : Φ (.bl i) M) : JE X Γ M (.Constant (.bool i) j pos) Φ Ψ := fun B Hn H σ S A Q q => run_pe pe_bl (q _ _ M Hn H h S (Same.refl _) (.bl i))
theorem je_non {j} (h : Φ .non M) : JE X Γ M (.Constant .none j pos) Φ Ψ := fun B Hn H σ S A Q q => run_pe pe_non (q _ _ M Hn H h S (Same.refl _) .non)
theorem je_str {x : Str} {j} (h : Φ (.str x) M) : JE X Γ M (.Constant (.str x) j pos) Φ Ψ := fun B Hn H σ S A Q q => run_pe pe_str (q _ _ M Hn H h S (Same.refl _) (.str x))
/-- a module's name as a value -/
theorem je_glob {x : Str} {v : V} {u : Value} {d : D} (hm : X.mg x = some u) (r : RelV v u) (hi : ∀ Hn, Is X.K Hn v d) (h : Φ d M) (hg : Gl X x := by rfl) (hd : (x == ("__debug__" : Str)) = false := by decide) : JE X Γ M (.Name x pos) Φ Ψ :=
  fun B Hn H σ S A Q q => run_pe (pe_glob hg hm r hd) (q _ _ M Hn H h S (Same.refl _) (hi Hn))
/-- a built-in's name as a value -/
theorem je_bltn {x : Str} {v : V} {u : Value} (hm : X.mg x = none) (hv : bootBuiltins x = some u) (r : RelV v u) (h : Φ (.raw v) M) (hg : Gl X x := by rfl) (hn : x ≠ "__name__" := by decide) (hd : (x == ("__debug__" : Str)) = false := by decide) : JE X Γ M (.Name x pos) Φ Ψ :=
  fun B Hn H σ S A Q q => run_pe (pe_bltn hg hm hv r hn hd) (q _ _ M Hn H h S (Same.refl _) (.raw v))

/-! ### arguments, displays -/
theorem ja_nil {Φ : List D → Mem → Prop} (h : Φ [] M) : JA X Γ M [] Φ Ψ := fun B Hn H σ S A Q q => run_pa pa_nil (q [] [] M Hn H h S (Same.refl _) .nil)
theorem ja_cons {Φ : List D → Mem → Prop} (h : JE X Γ M a (fun d M1 => JA X Γ M1 es (fun ds M2 => Φ (d :: ds) M2) Ψ) Ψ) (hs : starEach (a :: es) X.env = (false, eval a X.env) :: starEach es X.env := by rfl) : JA X Γ M (a :: es) Φ Ψ := fun B Hn H σ S A Q q => by
  refine run_pa (pa_cons pe_run pa_run hs) ?_
  refine h B Hn H σ S A _ fun v d M1 Hn1 H1 p S1 e1 r1 => ?_
  refine p B Hn1 H1 σ S1 (A.mono e1) _ fun vs ds M2 Hn2 H2 p2 S2 e2 r2 => ?_
  exact q _ _ M2 Hn2 H2 p2 S2 (e1.trans e2) (.cons (r1.mono e2) r2)
theorem je_tup (h : JA X Γ M es (fun ds M1 => ds.length ≤ 1000000 ∧ Φ (.tup ds) M1) Ψ) {x1} : JE X Γ M (.Tuple es x1 pos) Φ Ψ := fun B Hn H σ S A Q q => by
  refine run_pe (pe_tup pa_run) ?_
  refine h B Hn H σ S A _ fun vs ds M1 Hn1 H1 p S1 e1 r1 => ⟨?_, fun t ht => ?_⟩
  · rw [r1.length, sizeLine_eq]
    have := p.1
    omega
  · have hn := S1.rep.nn ht
    exact q _ _ M1 _ _ p.2 (S1.alloc ht) (e1.trans (same_upd hn)) (.tup (.inl upd_same) (r1.mono (same_upd hn)))
/-- a list that does not change any more -/
theorem je_lst (h : JA X Γ M es (fun ds M1 => ds.length ≤ 1000000 ∧ Φ (.lst ds) M1) Ψ) : JE X Γ M (.List es pos) Φ Ψ := fun B Hn H σ S A Q q => by
  refine run_pe (pe_lst pa_run) ?_
  refine h B Hn H σ S A _ fun vs ds M1 Hn1 H1 p S1 e1 r1 => ⟨?_, fun t ht => ?_⟩
  · rw [r1.length, sizeLine_eq]
    have := p.1
    omega
  · have hn := S1.rep.nn ht
    exact q _ _ M1 _ _ p.2 (S1.alloc ht) (e1.trans (same_upd hn)) (.lst upd_same (r1.mono (same_upd hn)))
/-- a list that may change: a new cell -/
theorem je_lstC (h : JA X Γ M es (fun ds M1 => ds.length ≤ 1000000 ∧ ∀ t, Φ (.raw (.ref t)) (M1 ++ [(t, .lst ds)])) Ψ) : JE X Γ M (.List es pos) Φ Ψ := fun B Hn H σ S A Q q => by
  refine run_pe (pe_lst pa_run) ?_
  refine h B Hn H σ S A _ fun vs ds M1 Hn1 H1 p S1 e1 r1 => ⟨?_, fun t ht => ?_⟩
  · rw [r1.length, sizeLine_eq]
    have := p.1
    omega
  · exact q _ _ _ _ _ (p.2 t) (S1.cell ht ⟨vs, upd_same, r1⟩) e1 (.raw _)
theorem je_dKC (h : ∀ t, Φ (.raw (.ref t)) (M ++ [(t, .dK [])])) : JE X Γ M (.Dict [] [] pos) Φ Ψ := fun B Hn H σ S A Q q => by
  refine run_pe pe_dnewK fun t ht => ?_
  exact q _ _ _ _ _ (h t) (S.cell ht ⟨[], upd_same, .nil⟩) (Same.refl _) (.raw _)
theorem je_dTC (h : ∀ t, Φ (.raw (.ref t)) (M ++ [(t, .dT [])])) : JE X Γ M (.Dict [] [] pos) Φ Ψ := fun B Hn H σ S A Q q => by
  refine run_pe pe_dnewT fun t ht => ?_
  exact q _ _ _ _ _ (h t) (S.cell ht ⟨[], upd_same, .nil⟩) (Same.refl _) (.raw _)
/-- {} as data -/
theorem je_d0 (h : Φ (.dK []) M) : JE X Γ M (.Dict [] [] pos) Φ Ψ := fun B Hn H σ S A Q q => by
  refine run_pe pe_dnewK fun t ht => ?_
  have hn := S.rep.nn ht
  exact q _ _ _ _ _ h (S.alloc ht) (same_upd hn) (.dK upd_same .nil)

/-! ### tests -/
theorem jt_val (h : JE X Γ M a (fun d M1 => ∃ b, d = .bl b ∧ Φb b M1) Ψ) (he : ∀ whole, isTrue a X.env whole = (do let v ← whole; standAt a.pos; holding [v] (truthy v)) := by intro _; rfl) : JT X Γ M a Φb Ψ := fun B Hn H σ S A Q q => by
  refine run_pt (pt_val pe_run he) ?_
  refine h B Hn H σ S A _ fun v d M1 Hn1 H1 p S1 e1 r1 => ?_
  obtain ⟨k, rfl, p⟩ := p
  cases r1
  exact ⟨k, rfl, q k M1 Hn1 H1 p S1 e1⟩
/-- what data is true -/
def tru : D → Option Bool
  | .non => some false
  | .bl b => some b
  | .int i => some (i != 0)
  | .str x => some ((x.length : Int) != 0)
  | .lst xs => some (!xs.isEmpty)
  | .tup xs => some (!xs.isEmpty)
  | _ => none
def small : D → Prop
  | .str x => x.length ≤ 1000000
  | _ => True
theorem tru_of {K : PySem.W.Frag} {Hn H : Hp} {v : V} {d : D} {k : Bool} (r : Is K Hn v d) (e : Same Hn H) (h : tru d = some k) (hs : small d) : TruV K v H k := by
  have line : (1000000 : Nat) ≤ sizeLine := by rw [sizeLine_eq]; omega
  cases r with
  | non => cases h; rfl
  | bl b => cases h; rfl
  | int i => cases h; rfl
  | str x => cases h; exact ⟨Nat.le_trans hs line, rfl⟩
  | @tup _ vs ds t r =>
    cases h
    refine .inr (.inl ⟨vs, same_t e t, ?_⟩)
    cases r <;> rfl
  | @lst _ vs ds t r =>
    cases h
    refine .inl ⟨vs, SqL.of (e _ _ t), ?_⟩
    cases r <;> rfl
  | dK _ _ => cases h
  | dT _ _ => cases h
  | ins _ _ => cases h
  | raw _ => cases h
  | exc _ _ => cases h
  | cl _ => cases h
theorem jt_truth (h : JE X Γ M a (fun d M1 => small d ∧ ∃ b, tru d = some b ∧ Φb b M1) Ψ) (he : ∀ whole, isTrue a X.env whole = (do let v ← whole; standAt a.pos; holding [v] (truthy v)) := by intro _; rfl) : JT X Γ M a Φb Ψ := fun B Hn H σ S A Q q => by
  refine run_pt (pt_truth pe_run he) ?_
  refine h B Hn H σ S A _ fun v d M1 Hn1 H1 p S1 e1 r1 => ?_
  obtain ⟨hs, k, hk, p⟩ := p
  exact ⟨k, tru_of r1 S1.rep.sub hk hs, q k M1 Hn1 H1 p S1 e1⟩
theorem jt_not (h : JT X Γ M a (fun b M1 => Φb (!b) M1) Ψ) : JT X Γ M (.UnaryOp .Not a pos) Φb Ψ := fun B Hn H σ S A Q q => by
  refine run_pt (pt_not pt_run) ?_
  exact h B Hn H σ S A _ fun k M1 Hn1 H1 p S1 e1 => q _ M1 Hn1 H1 p S1 e1
theorem jt_w (h : JW X Γ M a Φb Ψ) : JT X Γ M a Φb Ψ := fun B Hn H σ S A Q q => run_pt (pw_run).pt (h B Hn H σ S A Q q)
theorem jw_and1 (h : JT X Γ M a Φb Ψ) : JW X Γ M (.BoolOp .And [a] pos) Φb Ψ := fun B Hn H σ S A Q q => run_pw (pw_and1 pt_run) (h B Hn H σ S A Q q)
theorem jw_or1 (h : JT X Γ M a Φb Ψ) : JW X Γ M (.BoolOp .Or [a] pos) Φb Ψ := fun B Hn H σ S A Q q => run_pw (pw_or1 pt_run) (h B Hn H σ S A Q q)
theorem jw_and {rest : List Expr} (h : JT X Γ M a (fun k M1 => if k = true then JW X Γ M1 (.BoolOp .And (b :: rest) pos) Φb Ψ else Φb false M1) Ψ) : JW X Γ M (.BoolOp .And (a :: b :: rest) pos) Φb Ψ := fun B Hn H σ S A Q q => by
  refine run_pw (pw_and pt_run pw_run) ?_
  refine h B Hn H σ S A _ fun k M1 Hn1 H1 p S1 e1 => ?_
  cases k with
  | true =>
    rw [if_pos rfl] at p
    rw [if_pos rfl]
    exact p B Hn1 H1 σ S1 (A.mono e1) Q fun k2 M2 Hn2 H2 p2 S2 e2 => q k2 M2 Hn2 H2 p2 S2 (e1.trans e2)
  | false =>
    rw [if_neg Bool.false_ne_true] at p
    rw [if_neg Bool.false_ne_true]
    exact q _ _ _ _ p S1 e1
theorem jw_or {rest : List Expr} (h : JT X Γ M a (fun k M1 => if k = true then Φb true M1 else JW X Γ M1 (.BoolOp .Or (b :: rest) pos) Φb Ψ) Ψ) : JW X Γ M (.BoolOp .Or (a :: b :: rest) pos) Φb Ψ := fun B Hn H σ S A Q q => by
  refine run_pw (pw_or pt_run pw_run) ?_
  refine h B Hn H σ S A _ fun k M1 Hn1 H1 p S1 e1 => ?_
  cases k with
  | true =>
    rw [if_pos rfl] at p
    rw [if_pos rfl]
    exact q _ _ _ _ p S1 e1
  | false =>
    rw [if_neg Bool.false_ne_true] at p
    rw [if_neg Bool.false_ne_true]
    exact p B Hn1 H1 σ S1 (A.mono e1) Q fun k2 M2 Hn2 H2 p2 S2 e2 => q k2 M2 Hn2 H2 p2 S2 (e1.trans e2)
/-! ### the same as values (truth values) -/
theorem je_one {op} (h : JE X Γ M a Φ Ψ) : JE X Γ M (.BoolOp op [a] pos) Φ Ψ := fun B Hn H σ S A Q q => run_pe (pe_one pe_run) (h B Hn H σ S A Q q)
theorem je_and {rest : List Expr} (h : JE X Γ M a (fun d M1 => ∃ k, d = .bl k ∧ if k = true then JE X Γ M1 (.BoolOp .And (b :: rest) pos) Φ Ψ else Φ (.bl false) M1) Ψ) : JE X Γ M (.BoolOp .And (a :: b :: rest) pos) Φ Ψ := fun B Hn H σ S A Q q => by
  refine run_pe (pe_and pe_run pe_run) ?_
  refine h B Hn H σ S A _ fun v d M1 Hn1 H1 p S1 e1 r1 => ?_
  obtain ⟨k, rfl, p⟩ := p
  cases r1
  refine ⟨k, rfl, ?_⟩
  cases k with
  | true =>
    rw [if_pos rfl] at p
    rw [if_pos rfl]
    exact p B Hn1 H1 σ S1 (A.mono e1) Q fun v2 d2 M2 Hn2 H2 p2 S2 e2 r2 => q v2 d2 M2 Hn2 H2 p2 S2 (e1.trans e2) r2
  | false =>
    rw [if_neg Bool.false_ne_true] at p
    rw [if_neg Bool.false_ne_true]
    exact q _ _ _ _ _ p S1 e1 (.bl false)
theorem je_or {rest : List Expr} (h : JE X Γ M a (fun d M1 => ∃ k, d = .bl k ∧ if k = true then Φ (.bl true) M1 else JE X Γ M1 (.BoolOp .Or (b :: rest) pos) Φ Ψ) Ψ) : JE X Γ M (.BoolOp .Or (a :: b :: rest) pos) Φ Ψ := fun B Hn H σ S A Q q => by
  refine run_pe (pe_or pe_run pe_run) ?_
  refine h B Hn H σ S A _ fun v d M1 Hn1 H1 p S1 e1 r1 => ?_
  obtain ⟨k, rfl, p⟩ := p
  cases r1
  refine ⟨k, rfl, ?_⟩
  cases k with
  | true =>
    rw [if_pos rfl] at p
    rw [if_pos rfl]
    exact q _ _ _ _ _ p S1 e1 (.bl true)
  | false =>
    rw [if_neg Bool.false_ne_true] at p
    rw [if_neg Bool.false_ne_true]
    exact p B Hn1 H1 σ S1 (A.mono e1) Q fun v2 d2 M2 Hn2 H2 p2 S2 e2 r2 => q v2 d2 M2 Hn2 H2 p2 S2 (e1.trans e2) r2
theorem je_not (h : JE X Γ M a (fun d M1 => ∃ k, d = .bl k ∧ Φ (.bl (!k)) M1) Ψ) : JE X Γ M (.UnaryOp .Not a pos) Φ Ψ := fun B Hn H σ S A Q q => by
  refine run_pe (pe_not pe_run) ?_
  refine h B Hn H σ S A _ fun v d M1 Hn1 H1 p S1 e1 r1 => ?_
  obtain ⟨k, rfl, p⟩ := p
  cases r1
  exact ⟨k, rfl, q _ _ _ _ _ p S1 e1 (.bl _)⟩
theorem je_ifExp (h : JT X Γ M c (fun k M1 => if k = true then JE X Γ M1 a Φ Ψ else JE X Γ M1 b Φ Ψ) Ψ) : JE X Γ M (.IfExp c a b pos) Φ Ψ := fun B Hn H σ S A Q q => by
  refine run_pe (pe_ifExp pt_run pe_run pe_run) ?_
  refine h B Hn H σ S A _ fun k M1 Hn1 H1 p S1 e1 => ?_
  cases k with
  | true =>
    rw [if_pos rfl] at p
    rw [if_pos rfl]
    exact p B Hn1 H1 σ S1 (A.mono e1) Q fun v2 d2 M2 Hn2 H2 p2 S2 e2 r2 => q v2 d2 M2 Hn2 H2 p2 S2 (e1.trans e2) r2
  | false =>
    rw [if_neg Bool.false_ne_true] at p
    rw [if_neg Bool.false_ne_true]
    exact p B Hn1 H1 σ S1 (A.mono e1) Q fun v2 d2 M2 Hn2 H2 p2 S2 e2 r2 => q v2 d2 M2 Hn2 H2 p2 S2 (e1.trans e2) r2

/-! ### operators: what two data give -/
/-- an operator's rule by its reading -/
def OpD (X : Cx) (f : Value → Value → Sem Value) (x y : D) (M : Mem) (Φ : D → Mem → Prop) : Prop :=
  ∀ B Γ Hn H σ v u (Q : VK), SR X.K B M Γ Hn H σ → Is X.K Hn v x → Is X.K Hn u y → (∀ z d M' Hn' H', Φ d M' → SR X.K B M' Γ Hn' H' σ → Same Hn Hn' → Is X.K Hn' z d → Q z H') → ∃ r : R2, OpR X f r ∧ r v u H Q
def rAny (X : Cx) (f : Value → Value → Sem Value) : R2 := fun v u H Q => ∃ r : R2, OpR X f r ∧ r v u H Q
theorem op_any {X : Cx} {f : Value → Value → Sem Value} : OpR X f (rAny X f) := by
  intro pins s σ H x y u v Q I rx ry h
  obtain ⟨r, hr, h⟩ := h
  exact hr pins s σ H x y u v Q I rx ry h
theorem je_op {op : Operator} (h : JE X Γ M a (fun x M1 => JE X Γ M1 b (fun y M2 => OpD X (binaryOp op) x y M2 Φ) Ψ) Ψ) : JE X Γ M (.BinOp a op b pos) Φ Ψ := fun B Hn H σ S A Q q => by
  refine run_pe (pe_op op_any pe_run pe_run) ?_
  refine h B Hn H σ S A _ fun v d M1 Hn1 H1 p S1 e1 r1 => ?_
  refine p B Hn1 H1 σ S1 (A.mono e1) _ fun u d2 M2 Hn2 H2 p2 S2 e2 r2 => ?_
  exact p2 B Γ Hn2 H2 σ v u Q S2 (r1.mono e2) r2 fun z d M' Hn' H' p3 S3 e3 r3 => q z d M' Hn' H' p3 S3 ((e1.trans e2).trans e3) r3
theorem je_cmp {op : CmpOp} (h : JE X Γ M a (fun x M1 => JE X Γ M1 b (fun y M2 => OpD X (compareOp op) x y M2 Φ) Ψ) Ψ) (hm : behindInMarks op b = false := by first | rfl | exact nomark _) : JE X Γ M (.Compare a [op] [b] pos) Φ Ψ := fun B Hn H σ S A Q q => by
  refine run_pe (pe_cmpR op_any pe_run pe_run hm) ?_
  refine h B Hn H σ S A _ fun v d M1 Hn1 H1 p S1 e1 r1 => ?_
  refine p B Hn1 H1 σ S1 (A.mono e1) _ fun u d2 M2 Hn2 H2 p2 S2 e2 r2 => ?_
  exact p2 B Γ Hn2 H2 σ v u Q S2 (r1.mono e2) r2 fun z d M' Hn' H' p3 S3 e3 r3 => q z d M' Hn' H' p3 S3 ((e1.trans e2).trans e3) r3
theorem jt_cmp {op : CmpOp} (h : JE X Γ M a (fun x M1 => JE X Γ M1 b (fun y M2 => OpD X (compareOp op) x y M2 (fun d M3 => ∃ k, d = .bl k ∧ Φb k M3)) Ψ) Ψ) (hm : behindInMarks op b = false := by first | rfl | exact nomark _) : JT X Γ M (.Compare a [op] [b] pos) Φb Ψ := fun B Hn H σ S A Q q => by
  refine run_pt (pt_cmpR op_any pe_run pe_run hm) ?_
  refine h B Hn H σ S A _ fun v d M1 Hn1 H1 p S1 e1 r1 => ?_
  refine p B Hn1 H1 σ S1 (A.mono e1) _ fun u d2 M2 Hn2 H2 p2 S2 e2 r2 => ?_
  refine p2 B Γ Hn2 H2 σ v u _ S2 (r1.mono e2) r2 fun z d M' Hn' H' p3 S3 e3 r3 => ?_
  obtain ⟨k, rfl, p3⟩ := p3
  cases r3
  exact ⟨k, rfl, q k M' Hn' H' p3 S3 ((e1.trans e2).trans e3)⟩
theorem jt_chain {op op' : CmpOp} (h : JE X Γ M a (fun x M1 => JE X Γ M1 b (fun y M2 => OpD X (compareOp op) x y M2 (fun d M3 => ∃ k, d = .bl k ∧ if k = true then JE X Γ M3 c (fun z M4 => OpD X (compareOp op') y z M4 (fun d M5 => ∃ k, d = .bl k ∧ Φb k M5)) Ψ else Φb false M3)) Ψ) Ψ) (hm : lastMarks [op, op'] [b, c] = false := by rfl) :
    JT X Γ M (.Compare a [op, op'] [b, c] pos) Φb Ψ := fun B Hn H σ S A Q q => by
  refine run_pt (pt_chain op_any op_any pe_run pe_run pe_run (hm := hm)) ?_
  refine h B Hn H σ S A _ fun v d M1 Hn1 H1 p S1 e1 r1 => ?_
  refine p B Hn1 H1 σ S1 (A.mono e1) _ fun u d2 M2 Hn2 H2 p2 S2 e2 r2 => ?_
  refine p2 B Γ Hn2 H2 σ v u _ S2 (r1.mono e2) r2 fun z d M3 Hn3 H3 p3 S3 e3 r3 => ?_
  obtain ⟨k, rfl, p3⟩ := p3
  cases r3
  refine ⟨k, rfl, ?_⟩
  cases k with
  | true =>
    rw [if_pos rfl] at p3
    rw [if_pos rfl]
    refine p3 B Hn3 H3 σ S3 (A.mono ((e1.trans e2).trans e3)) _ fun w d4 M4 Hn4 H4 p4 S4 e4 r4 => ?_
    refine p4 B Γ Hn4 H4 σ u w _ S4 ((r2.mono e3).mono e4) r4 fun z d M' Hn' H' p5 S5 e5 r5 => ?_
    obtain ⟨k, rfl, p5⟩ := p5
    cases r5
    exact ⟨k, rfl, q k M' Hn' H' p5 S5 ((((e1.trans e2).trans e3).trans e4).trans e5)⟩
  | false =>
    rw [if_neg Bool.false_ne_true] at p3
    rw [if_neg Bool.false_ne_true]
    exact ⟨false, rfl, q _ _ _ _ p3 S3 ((e1.trans e2).trans e3)⟩
theorem je_chain {op op' : CmpOp} (h : JE X Γ M a (fun x M1 => JE X Γ M1 b (fun y M2 => OpD X (compareOp op) x y M2 (fun d M3 => ∃ k, d = .bl k ∧ if k = true then JE X Γ M3 c (fun z M4 => OpD X (compareOp op') y z M4 Φ) Ψ else Φ (.bl false) M3)) Ψ) Ψ) (hm : lastMarks [op, op'] [b, c] = false := by rfl) :
    JE X Γ M (.Compare a [op, op'] [b, c] pos) Φ Ψ := fun B Hn H σ S A Q q => by
  refine run_pe (pe_chain op_any op_any pe_run pe_run pe_run (hm := hm)) ?_
  refine h B Hn H σ S A _ fun v d M1 Hn1 H1 p S1 e1 r1 => ?_
  refine p B Hn1 H1 σ S1 (A.mono e1) _ fun u d2 M2 Hn2 H2 p2 S2 e2 r2 => ?_
  refine p2 B Γ Hn2 H2 σ v u _ S2 (r1.mono e2) r2 fun z d M3 Hn3 H3 p3 S3 e3 r3 => ?_
  obtain ⟨k, rfl, p3⟩ := p3
  cases r3
  refine ⟨k, rfl, ?_⟩
  cases k with
  | true =>
    rw [if_pos rfl] at p3
    rw [if_pos rfl]
    refine p3 B Hn3 H3 σ S3 (A.mono ((e1.trans e2).trans e3)) _ fun w d4 M4 Hn4 H4 p4 S4 e4 r4 => ?_
    exact p4 B Γ Hn4 H4 σ u w _ S4 ((r2.mono e3).mono e4) r4 fun z d M' Hn' H' p5 S5 e5 r5 => q _ _ _ _ _ p5 S5 ((((e1.trans e2).trans e3).trans e4).trans e5) r5
  | false =>
    rw [if_neg Bool.false_ne_true] at p3
    rw [if_neg Bool.false_ne_true]
    exact q _ _ _ _ _ p3 S3 ((e1.trans e2).trans e3) (.bl false)
end
end DL
end

section
set_option Elab.async false
set_option linter.all false
set_option maxRecDepth 100000
set_option maxHeartbeats 4000000
/-! Operators, subscripts, built-ins over data. -/
namespace DL
open PySem PySem.Spec PyProof.Rows L2

noncomputable instance : DecidableEq D := fun a b => Classical.propDecidable (a = b)
theorem keyD_inj {a b : Key} (h : keyD a = keyD b) : a = b := by
  cases a <;> cases b <;> simp [keyD] at h <;> rw [h]
theorem keysD_inj : ∀ {a b : List Key}, a.map keyD = b.map keyD → a = b
  | [], [], _ => rfl
  | [], _ :: _, h => by simp at h
  | _ :: _, [], h => by simp at h
  | x :: a, y :: b, h => by
    simp only [List.map_cons, List.cons.injEq] at h
    rw [keyD_inj h.1, keysD_inj h.2]
def tkD (k : List Key) : D := .tup (k.map keyD)
theorem tkD_inj {a b : List Key} (h : tkD a = tkD b) : a = b := keysD_inj (by simpa [tkD] using h)
noncomputable def lkD (kvs : List (D × D)) (k : D) : Option D := (kvs.find? fun kv => decide (kv.1 = k)).map (·.2)
noncomputable def ptD (kvs : List (D × D)) (k d : D) : List (D × D) := if (kvs.any fun kv => decide (kv.1 = k)) = true then kvs.map (fun kv => if kv.1 = k then (kv.1, d) else kv) else kvs ++ [(k, d)]
section
variable {K : PySem.W.Frag} {H : Hp}
theorem IsK.get : ∀ {ks : List (Key × V)} {ds : List (D × D)} (k : Key), IsK K H ks ds → (∃ v d, valV ks k = some v ∧ lkD ds (keyD k) = some d ∧ Is K H v d) ∨ (valV ks k = none ∧ lkD ds (keyD k) = none)
  | _, _, k, .nil => .inr ⟨rfl, rfl⟩
  | _, _, k, .cons (k := j) (v := v) (d := d) (vs := vs) (ds := ds) a b => by
    by_cases h : j = k
    · refine .inl ⟨v, d, valV_pos h, ?_, a⟩
      unfold lkD
      rw [List.find?_cons_of_pos (by simp [h])]
      rfl
    · have e1 : valV ((j, v) :: vs) k = valV vs k := valV_neg h
      have e2 : lkD ((keyD j, d) :: ds) (keyD k) = lkD ds (keyD k) := by
        unfold lkD
        rw [List.find?_cons_of_neg (by simpa using fun z => h (keyD_inj z))]
      rw [e1, e2]
      exact IsK.get k b
theorem IsT.get : ∀ {ks : List (List Key × V)} {ds : List (D × D)} (k : List Key), IsT K H ks ds → (∃ v d, valV ks k = some v ∧ lkD ds (tkD k) = some d ∧ Is K H v d) ∨ (valV ks k = none ∧ lkD ds (tkD k) = none)
  | _, _, k, .nil => .inr ⟨rfl, rfl⟩
  | _, _, k, .cons (k := j) (v := v) (d := d) (vs := vs) (ds := ds) a b => by
    by_cases h : j = k
    · refine .inl ⟨v, d, valV_pos h, ?_, a⟩
      unfold lkD
      rw [List.find?_cons_of_pos (by simp [h, tkD])]
      rfl
    · have e1 : valV ((j, v) :: vs) k = valV vs k := valV_neg h
      have e2 : lkD ((.tup (j.map keyD), d) :: ds) (tkD k) = lkD ds (tkD k) := by
        unfold lkD
        rw [List.find?_cons_of_neg (by show ¬ decide (tkD j = tkD k) = true; simpa using fun z => h (tkD_inj z))]
      rw [e1, e2]
      exact IsT.get k b
theorem IsK.put {v : V} {d : D} (r : Is K H v d) (k : Key) {ks : List (Key × V)} {ds : List (D × D)} (h : IsK K H ks ds) : IsK K H (putK ks k v) (ptD ds (keyD k) d) := by
  have ea : ∀ {ks : List (Key × V)} {ds : List (D × D)}, IsK K H ks ds → (ks.any fun kv => decide (kv.1 = k)) = (ds.any fun kv => decide (kv.1 = keyD k)) := by
    intro ks ds h
    induction ks generalizing ds with
    | nil => cases h; rfl
    | cons p ks ih =>
      cases h with
      | cons a b =>
        simp only [List.any_cons]
        rw [ih b]
        congr 1
        exact decide_eq_decide.mpr ⟨fun z => by rw [z], fun z => keyD_inj z⟩
  have em : ∀ {ks : List (Key × V)} {ds : List (D × D)}, IsK K H ks ds → IsK K H (ks.map fun kv => if kv.1 = k then (kv.1, v) else kv) (ds.map fun kv => if kv.1 = keyD k then (kv.1, d) else kv) := by
    intro ks ds h
    induction ks generalizing ds with
    | nil => cases h; exact .nil
    | cons p ks ih =>
      cases h with
      | @cons j x y _ _ a b =>
        simp only [List.map_cons]
        by_cases hj : j = k
        · rw [if_pos hj, if_pos (by rw [hj])]
          exact .cons r (ih b)
        · rw [if_neg hj, if_neg (fun z => hj (keyD_inj z))]
          exact .cons a (ih b)
  have ep : ∀ {ks : List (Key × V)} {ds : List (D × D)}, IsK K H ks ds → IsK K H (ks ++ [(k, v)]) (ds ++ [(keyD k, d)]) := by
    intro ks ds h
    induction ks generalizing ds with
    | nil => cases h; exact .cons r .nil
    | cons p ks ih =>
      cases h with
      | cons a b => exact .cons a (ih b)
  unfold putK ptD
  rw [ea h]
  split
  · exact em h
  · exact ep h
theorem IsT.put {v : V} {d : D} (r : Is K H v d) (k : List Key) {ks : List (List Key × V)} {ds : List (D × D)} (h : IsT K H ks ds) : IsT K H (putK ks k v) (ptD ds (tkD k) d) := by
  have ea : ∀ {ks : List (List Key × V)} {ds : List (D × D)}, IsT K H ks ds → (ks.any fun kv => decide (kv.1 = k)) = (ds.any fun kv => decide (kv.1 = tkD k)) := by
    intro ks ds h
    induction ks generalizing ds with
    | nil => cases h; rfl
    | cons p ks ih =>
      cases h with
      | cons a b =>
        simp only [List.any_cons]
        rw [ih b]
        congr 1
        exact decide_eq_decide.mpr ⟨fun z => by rw [z]; rfl, fun z => tkD_inj z⟩
  have em : ∀ {ks : List (List Key × V)} {ds : List (D × D)}, IsT K H ks ds → IsT K H (ks.map fun kv => if kv.1 = k then (kv.1, v) else kv) (ds.map fun kv => if kv.1 = tkD k then (kv.1, d) else kv) := by
    intro ks ds h
    induction ks generalizing ds with
    | nil => cases h; exact .nil
    | cons p ks ih =>
      cases h with
      | @cons j x y _ _ a b =>
        simp only [List.map_cons]
        by_cases hj : j = k
        · rw [if_pos hj, if_pos (by rw [hj]; rfl)]
          exact .cons r (ih b)
        · rw [if_neg hj, if_neg (show ¬ D.tup (j.map keyD) = tkD k from fun z => hj (tkD_inj z))]
          exact .cons a (ih b)
  have ep : ∀ {ks : List (List Key × V)} {ds : List (D × D)}, IsT K H ks ds → IsT K H (ks ++ [(k, v)]) (ds ++ [(tkD k, d)]) := by
    intro ks ds h
    induction ks generalizing ds with
    | nil => cases h; exact .cons r .nil
    | cons p ks ih =>
      cases h with
      | cons a b => exact .cons a (ih b)
  unfold putK ptD
  rw [ea h]
  split
  · exact em h
  · exact ep h
end

/-! ### data as the library's plain data -/
mutual
def py : D → PyData
  | .non => .none
  | .bl b => .bool b
  | .int i => .int i
  | .str x => .str x
  | .tup xs => .tuple (pyA xs)
  | .lst xs => .list (pyA xs)
  | .dK _ => .none
  | .dT _ => .none
  | .ins _ _ => .none
  | .raw _ => .none
  | .exc _ _ _ _ => .none
  | .cl _ _ => .none
def pyA : List D → List PyData
  | [] => []
  | x :: xs => py x :: pyA xs
end
mutual
def plain : D → Bool
  | .non | .bl _ | .int _ | .str _ => true
  | .tup xs => plainA xs
  | .lst xs => plainA xs
  | .dK _ | .dT _ | .ins _ _ | .raw _ | .exc _ _ _ _ | .cl _ _ => false
def plainA : List D → Bool
  | [] => true
  | x :: xs => plain x && plainA xs
end
theorem pyA_map : ∀ xs : List D, pyA xs = xs.map py
  | [] => rfl
  | x :: xs => by rw [pyA, pyA_map xs, List.map_cons]
theorem plainA_all : ∀ xs : List D, plainA xs = xs.all plain
  | [] => rfl
  | x :: xs => by rw [plainA, plainA_all xs, List.all_cons]
section
variable {K : PySem.W.Frag} {Hn H : Hp}
mutual
theorem Is.dp (e : Same Hn H) : ∀ {v : V} {d : D}, Is K Hn v d → plain d = true → Dp K H v (py d)
  | _, _, .non, _ => .non
  | _, _, .bl b, _ => .bl b
  | _, _, .int i, _ => .int i
  | _, _, .str x, _ => .str x
  | _, _, .tup h a, p => .tup (same_t e h) (IsA.dp e a (by simpa [plain] using p))
  | _, _, .lst h a, p => .lst (SqL.of (e _ _ h)) (IsA.dp e a (by simpa [plain] using p))
  | _, _, .dK h a, p => by simp [plain] at p
  | _, _, .dT h a, p => by simp [plain] at p
  | _, _, .ins h a, p => by simp [plain] at p
  | _, _, .raw v, p => by simp [plain] at p
  | _, _, .exc h a, p => by simp [plain] at p
  | _, _, .cl h, p => by simp [plain] at p
theorem IsA.dp (e : Same Hn H) : ∀ {vs : List V} {ds : List D}, IsA K Hn vs ds → plainA ds = true → DpAll K H vs (pyA ds)
  | _, _, .nil, _ => .nil
  | _, _, .cons a b, p => .cons (Is.dp e a (by simp [plainA] at p; exact p.1)) (IsA.dp e b (by simp [plainA] at p; exact p.2))
end
end
/-- == of data -/
def eqd (x y : D) : Bool := PyData.eqv (py x) (py y)
/-- fit for == and the like -/
def fit (x : D) : Bool := plain x && SeqAt.shaped (py x)

section
variable {X : Cx} {M : Mem} {Φ : D → Mem → Prop}
theorem opd_addI {i j : Int} (h : Φ (.int (i + j)) M) : OpD X (binaryOp .Add) (.int i) (.int j) M Φ := fun B Γ Hn H σ v u Q S rx ry q => by
  cases rx; cases ry
  exact ⟨_, op_add, _, _, rfl, rfl, q _ _ _ _ _ h S (Same.refl _) (.int _)⟩
theorem opd_subI {i j : Int} (h : Φ (.int (i - j)) M) : OpD X (binaryOp .Sub) (.int i) (.int j) M Φ := fun B Γ Hn H σ v u Q S rx ry q => by
  cases rx; cases ry
  exact ⟨_, op_sub, _, _, rfl, rfl, q _ _ _ _ _ h S (Same.refl _) (.int _)⟩
theorem opd_mulI {i j : Int} (hc : CMul i j) (h : Φ (.int (i * j)) M) : OpD X (binaryOp .Mult) (.int i) (.int j) M Φ := fun B Γ Hn H σ v u Q S rx ry q => by
  cases rx; cases ry
  exact ⟨_, op_mul, _, _, rfl, rfl, hc, q _ _ _ _ _ h S (Same.refl _) (.int _)⟩
theorem opd_modI {i j : Int} (hc : 0 < j) (h : Φ (.int (i % j)) M) : OpD X (binaryOp .Mod) (.int i) (.int j) M Φ := fun B Γ Hn H σ v u Q S rx ry q => by
  cases rx; cases ry
  exact ⟨_, op_mod, _, _, rfl, rfl, hc, q _ _ _ _ _ h S (Same.refl _) (.int _)⟩
theorem opd_divI {i j : Int} (hc : CDiv i j) (h : Φ (.int (i / j)) M) : OpD X (binaryOp .FloorDiv) (.int i) (.int j) M Φ := fun B Γ Hn H σ v u Q S rx ry q => by
  cases rx; cases ry
  exact ⟨_, op_fdiv, _, _, rfl, rfl, hc, q _ _ _ _ _ h S (Same.refl _) (.int _)⟩
theorem opd_powI {i j : Int} (hc : CPow i j) (h : Φ (.int (i ^ j.toNat)) M) : OpD X (binaryOp .Pow) (.int i) (.int j) M Φ := fun B Γ Hn H σ v u Q S rx ry q => by
  cases rx; cases ry
  exact ⟨_, op_pow, _, _, rfl, rfl, hc, q _ _ _ _ _ h S (Same.refl _) (.int _)⟩
theorem opd_addS {i j : Str} (hl : i.length + j.length ≤ 1000000) (h : Φ (.str (i ++ j)) M) : OpD X (binaryOp .Add) (.str i) (.str j) M Φ := fun B Γ Hn H σ v u Q S rx ry q => by
  cases rx; cases ry
  exact ⟨_, op_add_str, _, _, rfl, rfl, by rw [sizeLine_eq]; omega, q _ _ _ _ _ h S (Same.refl _) (.str _)⟩
theorem opd_addL {xs ys : List D} (hl : xs.length + ys.length ≤ 1000000) (h : Φ (.lst (xs ++ ys)) M) : OpD X (binaryOp .Add) (.lst xs) (.lst ys) M Φ := fun B Γ Hn H σ v u Q S rx ry q => by
  cases rx with
  | lst h1 r1 =>
  cases ry with
  | lst h2 r2 =>
    refine ⟨_, op_cat, _, _, _, _, rfl, rfl, S.rep.sub _ _ h1, S.rep.sub _ _ h2, by rw [r1.length, r2.length, sizeLine_eq]; omega, fun p hp => ?_⟩
    have hn := S.rep.nn hp
    exact q _ _ _ _ _ h (S.alloc hp) (same_upd hn) (.lst upd_same ((r1.append r2).mono (same_upd hn)))
theorem opd_addT {xs ys : List D} (hl : xs.length + ys.length ≤ 1000000) (h : Φ (.tup (xs ++ ys)) M) : OpD X (binaryOp .Add) (.tup xs) (.tup ys) M Φ := fun B Γ Hn H σ v u Q S rx ry q => by
  cases rx with
  | @tup a vs _ h1 r1 =>
  cases ry with
  | @tup b us _ h2 r2 =>
    refine ⟨_, op_catA, _, _, _, _, rfl, rfl, same_t S.rep.sub h1, same_t S.rep.sub h2, by rw [r1.length, r2.length, sizeLine_eq]; omega, fun e => ?_, fun _ e => ?_, fun _ _ p hp => ?_⟩
    · subst e
      cases r1
      exact q _ _ _ _ _ h S (Same.refl _) (.tup h2 r2)
    · subst e
      cases r2
      rw [List.append_nil] at h
      exact q _ _ _ _ _ h S (Same.refl _) (.tup h1 r1)
    · have hn := S.rep.nn hp
      exact q _ _ _ _ _ h (S.alloc hp) (same_upd hn) (.tup (.inl upd_same) ((r1.append r2).mono (same_upd hn)))
theorem opd_ltI {i j : Int} (h : Φ (.bl (decide (i < j))) M) : OpD X (compareOp .Lt) (.int i) (.int j) M Φ := fun B Γ Hn H σ v u Q S rx ry q => by
  cases rx; cases ry
  exact ⟨_, op_lt, _, _, rfl, rfl, q _ _ _ _ _ h S (Same.refl _) (.bl _)⟩
theorem opd_leI {i j : Int} (h : Φ (.bl (decide (i ≤ j))) M) : OpD X (compareOp .LtE) (.int i) (.int j) M Φ := fun B Γ Hn H σ v u Q S rx ry q => by
  cases rx; cases ry
  exact ⟨_, op_le, _, _, rfl, rfl, q _ _ _ _ _ h S (Same.refl _) (.bl _)⟩
theorem opd_gtI {i j : Int} (h : Φ (.bl (decide (j < i))) M) : OpD X (compareOp .Gt) (.int i) (.int j) M Φ := fun B Γ Hn H σ v u Q S rx ry q => by
  cases rx; cases ry
  exact ⟨_, op_gt, _, _, rfl, rfl, q _ _ _ _ _ h S (Same.refl _) (.bl _)⟩
theorem opd_geI {i j : Int} (h : Φ (.bl (decide (j ≤ i))) M) : OpD X (compareOp .GtE) (.int i) (.int j) M Φ := fun B Γ Hn H σ v u Q S rx ry q => by
  cases rx; cases ry
  exact ⟨_, op_ge, _, _, rfl, rfl, q _ _ _ _ _ h S (Same.refl _) (.bl _)⟩
theorem opd_eqI {i j : Int} (h : Φ (.bl (decide (i = j))) M) : OpD X (compareOp .Eq) (.int i) (.int j) M Φ := fun B Γ Hn H σ v u Q S rx ry q => by
  cases rx; cases ry
  refine ⟨_, op_eq, rfl, ?_⟩
  rw [show decide (V.int i = V.int j) = decide (i = j) from decide_eq_decide.mpr ⟨fun z => V.int.inj z, fun z => by rw [z]⟩]
  exact q _ _ _ _ _ h S (Same.refl _) (.bl _)
theorem opd_neI {i j : Int} (h : Φ (.bl (!decide (i = j))) M) : OpD X (compareOp .NotEq) (.int i) (.int j) M Φ := fun B Γ Hn H σ v u Q S rx ry q => by
  cases rx; cases ry
  refine ⟨_, op_ne, rfl, ?_⟩
  rw [show decide (V.int i = V.int j) = decide (i = j) from decide_eq_decide.mpr ⟨fun z => V.int.inj z, fun z => by rw [z]⟩]
  exact q _ _ _ _ _ h S (Same.refl _) (.bl _)
theorem opd_eqS {i j : Str} (h : Φ (.bl (decide (i = j))) M) : OpD X (compareOp .Eq) (.str i) (.str j) M Φ := fun B Γ Hn H σ v u Q S rx ry q => by
  cases rx; cases ry
  refine ⟨_, op_eq, rfl, ?_⟩
  rw [show decide (V.str i = V.str j) = decide (i = j) from decide_eq_decide.mpr ⟨fun z => V.str.inj z, fun z => by rw [z]⟩]
  exact q _ _ _ _ _ h S (Same.refl _) (.bl _)
theorem opd_neS {i j : Str} (h : Φ (.bl (!decide (i = j))) M) : OpD X (compareOp .NotEq) (.str i) (.str j) M Φ := fun B Γ Hn H σ v u Q S rx ry q => by
  cases rx; cases ry
  refine ⟨_, op_ne, rfl, ?_⟩
  rw [show decide (V.str i = V.str j) = decide (i = j) from decide_eq_decide.mpr ⟨fun z => V.str.inj z, fun z => by rw [z]⟩]
  exact q _ _ _ _ _ h S (Same.refl _) (.bl _)
theorem opd_eqB {i j : Bool} (h : Φ (.bl (decide (i = j))) M) : OpD X (compareOp .Eq) (.bl i) (.bl j) M Φ := fun B Γ Hn H σ v u Q S rx ry q => by
  cases rx; cases ry
  refine ⟨_, op_eq, rfl, ?_⟩
  rw [show decide (V.bl i = V.bl j) = decide (i = j) from decide_eq_decide.mpr ⟨fun z => V.bl.inj z, fun z => by rw [z]⟩]
  exact q _ _ _ _ _ h S (Same.refl _) (.bl _)
theorem opd_neB {i j : Bool} (h : Φ (.bl (!decide (i = j))) M) : OpD X (compareOp .NotEq) (.bl i) (.bl j) M Φ := fun B Γ Hn H σ v u Q S rx ry q => by
  cases rx; cases ry
  refine ⟨_, op_ne, rfl, ?_⟩
  rw [show decide (V.bl i = V.bl j) = decide (i = j) from decide_eq_decide.mpr ⟨fun z => V.bl.inj z, fun z => by rw [z]⟩]
  exact q _ _ _ _ _ h S (Same.refl _) (.bl _)
/-- == of plain data of any make -/
theorem opd_eqD {x y : D} (hu : X.A.units + 64 < cLine) (hx : fit x = true) (hy : fit y = true) (h : Φ (.bl (eqd x y)) M) : OpD X (compareOp .Eq) x y M Φ := fun B Γ Hn H σ v u Q S rx ry q => by
  obtain ⟨p1, s1⟩ := Bool.and_eq_true_iff.mp hx
  obtain ⟨p2, s2⟩ := Bool.and_eq_true_iff.mp hy
  exact ⟨_, op_eqD hu, py x, py y, rx.dp S.rep.sub p1, ry.dp S.rep.sub p2, s1, s2, q _ _ _ _ _ h S (Same.refl _) (.bl _)⟩
theorem opd_neD {x y : D} (hu : X.A.units + 64 < cLine) (hx : fit x = true) (hy : fit y = true) (h : Φ (.bl (!eqd x y)) M) : OpD X (compareOp .NotEq) x y M Φ := fun B Γ Hn H σ v u Q S rx ry q => by
  obtain ⟨p1, s1⟩ := Bool.and_eq_true_iff.mp hx
  obtain ⟨p2, s2⟩ := Bool.and_eq_true_iff.mp hy
  exact ⟨_, op_neD hu, py x, py y, rx.dp S.rep.sub p1, ry.dp S.rep.sub p2, s1, s2, q _ _ _ _ _ h S (Same.refl _) (.bl _)⟩
theorem opd_inD {x : D} {ys : List D} (hu : X.A.units + 65 < cLine) (hx : fit x = true) (hy : fit (.lst ys) = true) (h : Φ (.bl (ys.any fun z => eqd z x)) M) : OpD X (compareOp .In) x (.lst ys) M Φ := fun B Γ Hn H σ v u Q S rx ry q => by
  obtain ⟨p1, s1⟩ := Bool.and_eq_true_iff.mp hx
  obtain ⟨p2, s2⟩ := Bool.and_eq_true_iff.mp hy
  refine ⟨_, op_inD hu, py x, pyA ys, rx.dp S.rep.sub p1, ry.dp S.rep.sub p2, s1, s2, ?_⟩
  have e : ((pyA ys).any fun z => PyData.eqv z (py x)) = (ys.any fun z => eqd z x) := by
    rw [pyA_map, List.any_map]
    rfl
  rw [e]
  exact q _ _ _ _ _ h S (Same.refl _) (.bl _)
theorem opd_notInD {x : D} {ys : List D} (hu : X.A.units + 65 < cLine) (hx : fit x = true) (hy : fit (.lst ys) = true) (h : Φ (.bl (!ys.any fun z => eqd z x)) M) : OpD X (compareOp .NotIn) x (.lst ys) M Φ := fun B Γ Hn H σ v u Q S rx ry q => by
  obtain ⟨p1, s1⟩ := Bool.and_eq_true_iff.mp hx
  obtain ⟨p2, s2⟩ := Bool.and_eq_true_iff.mp hy
  refine ⟨_, op_notInD hu, py x, pyA ys, rx.dp S.rep.sub p1, ry.dp S.rep.sub p2, s1, s2, ?_⟩
  have e : ((pyA ys).any fun z => PyData.eqv z (py x)) = (ys.any fun z => eqd z x) := by
    rw [pyA_map, List.any_map]
    rfl
  rw [e]
  exact q _ _ _ _ _ h S (Same.refl _) (.bl _)
/-- one sign in a text -/
theorem opd_inS {c : Nat} {z : Str} (h : Φ (.bl (decide (c ∈ z.cps.toList))) M) : OpD X (compareOp .In) (.str ⟨#[c]⟩) (.str z) M Φ := fun B Γ Hn H σ v u Q S rx ry q => by
  cases rx; cases ry
  exact ⟨_, op_in_sign, c, z, rfl, rfl, q _ _ _ _ _ h S (Same.refl _) (.bl _)⟩
theorem opd_notInS {c : Nat} {z : Str} (h : Φ (.bl (!decide (c ∈ z.cps.toList))) M) : OpD X (compareOp .NotIn) (.str ⟨#[c]⟩) (.str z) M Φ := fun B Γ Hn H σ v u Q S rx ry q => by
  cases rx; cases ry
  exact ⟨_, op_notIn_sign, c, z, rfl, rfl, q _ _ _ _ _ h S (Same.refl _) (.bl _)⟩
def isN : D → Bool
  | .non => true
  | _ => false
theorem isN_of {K : PySem.W.Frag} {H : Hp} {v : V} {x : D} (r : Is K H v x) (h : ∀ z, x ≠ .raw z) : decide (v = V.non) = isN x := by
  cases r with
  | non => rfl
  | raw v => exact absurd rfl (h v)
  | _ => rfl
theorem opd_isN {x : D} (hx : ∀ z, x ≠ .raw z) (h : Φ (.bl (isN x)) M) : OpD X (compareOp .Is) x .non M Φ := fun B Γ Hn H σ v u Q S rx ry q => by
  cases ry
  refine ⟨_, op_isN, rfl, ?_⟩
  rw [isN_of rx hx]
  exact q _ _ _ _ _ h S (Same.refl _) (.bl _)
theorem opd_notN {x : D} (hx : ∀ z, x ≠ .raw z) (h : Φ (.bl (!isN x)) M) : OpD X (compareOp .IsNot) x .non M Φ := fun B Γ Hn H σ v u Q S rx ry q => by
  cases ry
  refine ⟨_, op_notN, rfl, ?_⟩
  rw [isN_of rx hx]
  exact q _ _ _ _ _ h S (Same.refl _) (.bl _)
theorem opd_isB {a b : Bool} (h : Φ (.bl (decide (a = b))) M) : OpD X (compareOp .Is) (.bl a) (.bl b) M Φ := fun B Γ Hn H σ v u Q S rx ry q => by
  cases rx; cases ry
  exact ⟨_, op_isBl, a, b, rfl, rfl, q _ _ _ _ _ h S (Same.refl _) (.bl _)⟩
end
end DL
end

section
set_option Elab.async false
set_option linter.all false
set_option maxRecDepth 100000
set_option maxHeartbeats 4000000
/-! Calls of built-ins, subscripts, slices, methods over data. -/
namespace DL
open PySem PySem.Spec PyProof.Rows L2

/-! ### built-in functions and types, called -/
def CallD (X : Cx) (f : Value) (ds : List D) (M : Mem) (Φ : D → Mem → Prop) : Prop :=
  ∀ B Γ Hn H σ vs (Q : VK), SR X.K B M Γ Hn H σ → IsA X.K Hn vs ds → (∀ z d M' Hn' H', Φ d M' → SR X.K B M' Γ Hn' H' σ → Same Hn Hn' → Is X.K Hn' z d → Q z H') → ∃ r : List V → Hp → VK → Prop, CallR X f r ∧ r vs H Q
def cAny (X : Cx) (f : Value) : List V → Hp → VK → Prop := fun vs H Q => ∃ r : List V → Hp → VK → Prop, CallR X f r ∧ r vs H Q
theorem call_any {X : Cx} {f : Value} : CallR X f (cAny X f) := by
  intro pins s σ H xs us Q I r h
  obtain ⟨r', hr, h⟩ := h
  exact hr pins s σ H xs us Q I r h
section
variable {X : Cx} {Γ : Sl} {M : Mem} {Φ : D → Mem → Prop} {Ψ : XP} {a b c e : Expr} {es : List Expr} {pos p pos2 apos cpos : Pos}
theorem je_callB {x : Str} {id : String} (hm : X.mg x = none) (hv : bootBuiltins x = some (.builtin id)) (h : JA X Γ M (e :: es) (fun ds M1 => CallD X (.builtin id) ds M1 Φ) Ψ) (hg : Gl X x := by rfl) (hn : x ≠ "__name__" := by decide) (hdb : (x == ("__debug__" : Str)) = false := by decide)
    (he : starEach (e :: es) X.env = (false, eval e X.env) :: starEach es X.env := by rfl) (hpl : (backTo pos (starEach es X.env)).any (·.1) = false := by rfl) : JE X Γ M (.Call (.Name x p) (e :: es) [] pos) Φ Ψ := fun B Hn H σ S A Q q => by
  refine run_pe (pe_callB call_any hg hm hv pa_run hn hdb he hpl) ?_
  refine h B Hn H σ S A _ fun vs ds M1 Hn1 H1 p1 S1 e1 r1 => ?_
  exact p1 B Γ Hn1 H1 σ vs Q S1 r1 fun z d M' Hn' H' p2 S2 e2 r2 => q z d M' Hn' H' p2 S2 (e1.trans e2) r2
theorem je_callT {x : Str} {T : String} (hm : X.mg x = none) (hv : bootBuiltins x = some (.type T)) (h : JA X Γ M (e :: es) (fun ds M1 => CallD X (.type T) ds M1 Φ) Ψ) (hg : Gl X x := by rfl) (hn : x ≠ "__name__" := by decide) (hdb : (x == ("__debug__" : Str)) = false := by decide)
    (he : starEach (e :: es) X.env = (false, eval e X.env) :: starEach es X.env := by rfl) (hpl : (backTo pos (starEach es X.env)).any (·.1) = false := by rfl) : JE X Γ M (.Call (.Name x p) (e :: es) [] pos) Φ Ψ := fun B Hn H σ S A Q q => by
  refine run_pe (pe_callTy call_any hg hm hv pa_run hn hdb he hpl) ?_
  refine h B Hn H σ S A _ fun vs ds M1 Hn1 H1 p1 S1 e1 r1 => ?_
  exact p1 B Γ Hn1 H1 σ vs Q S1 r1 fun z d M' Hn' H' p2 S2 e2 r2 => q z d M' Hn' H' p2 S2 (e1.trans e2) r2
theorem IsA.one {K : PySem.W.Frag} {H : Hp} {vs : List V} {d : D} (h : IsA K H vs [d]) : ∃ v, vs = [v] ∧ Is K H v d := by
  cases h with
  | cons a b => cases b; exact ⟨_, rfl, a⟩
theorem IsA.two {K : PySem.W.Frag} {H : Hp} {vs : List V} {d d2 : D} (h : IsA K H vs [d, d2]) : ∃ v v2, vs = [v, v2] ∧ Is K H v d ∧ Is K H v2 d2 := by
  cases h with
  | cons a b =>
    obtain ⟨v2, rfl, r⟩ := b.one
    exact ⟨_, _, rfl, a, r⟩
theorem cd_lenL {xs : List D} (h : Φ (.int xs.length) M) : CallD X (.builtin "len") [.lst xs] M Φ := fun B Γ Hn H σ vs Q S rr q => by
  obtain ⟨v, rfl, r⟩ := rr.one
  clear rr
  cases r with
  | @lst a ws _ h1 r1 =>
    refine ⟨_, call_len_seq, a, ws, rfl, .inl (SqL.of (S.rep.sub _ _ h1)), ?_⟩
    rw [r1.length]
    exact q _ _ _ _ _ h S (Same.refl _) (.int _)
theorem cd_lenT {xs : List D} (h : Φ (.int xs.length) M) : CallD X (.builtin "len") [.tup xs] M Φ := fun B Γ Hn H σ vs Q S rr q => by
  obtain ⟨v, rfl, r⟩ := rr.one
  clear rr
  cases r with
  | @tup a ws _ h1 r1 =>
    refine ⟨_, call_len_seq, a, ws, rfl, .inr (same_t S.rep.sub h1), ?_⟩
    rw [r1.length]
    exact q _ _ _ _ _ h S (Same.refl _) (.int _)
theorem cd_lenS {x : Str} (hl : x.length ≤ 1000000) (h : Φ (.int x.length) M) : CallD X (.builtin "len") [.str x] M Φ := fun B Γ Hn H σ vs Q S rr q => by
  obtain ⟨v, rfl, r⟩ := rr.one
  clear rr
  cases r
  exact ⟨_, call_len, _, x.length, rfl, ⟨by rw [sizeLine_eq]; omega, rfl⟩, q _ _ _ _ _ h S (Same.refl _) (.int _)⟩
theorem cd_lenDK {xs : List (D × D)} (h : Φ (.int xs.length) M) : CallD X (.builtin "len") [.dK xs] M Φ := fun B Γ Hn H σ vs Q S rr q => by
  obtain ⟨v, rfl, r⟩ := rr.one
  clear rr
  cases r with
  | @dK a ws _ h1 r1 =>
    refine ⟨_, call_lenD, a, ws, rfl, S.rep.sub _ _ h1, ?_⟩
    rw [r1.length]
    exact q _ _ _ _ _ h S (Same.refl _) (.int _)
theorem cd_lenDT {xs : List (D × D)} (h : Φ (.int xs.length) M) : CallD X (.builtin "len") [.dT xs] M Φ := fun B Γ Hn H σ vs Q S rr q => by
  obtain ⟨v, rfl, r⟩ := rr.one
  clear rr
  cases r with
  | @dT a ws _ h1 r1 =>
    refine ⟨_, call_len_dT, a, ws, rfl, S.rep.sub _ _ h1, ?_⟩
    rw [r1.length]
    exact q _ _ _ _ _ h S (Same.refl _) (.int _)
/-- len of a list that may change -/
theorem cd_lenC (k : Nat) {t : Addr} {xs : List D} (hk : M[k]? = some (t, .lst xs)) (h : Φ (.int xs.length) M) : CallD X (.builtin "len") [.raw (.ref t)] M Φ := fun B Γ Hn H σ vs Q S rr q => by
  obtain ⟨v, rfl, r⟩ := rr.one
  clear rr
  cases r
  obtain ⟨ws, h1, r1⟩ := (S.rep.cell _ (List.mem_of_getElem? hk)).2
  refine ⟨_, call_len_seq, t, ws, rfl, .inl (SqL.of h1), ?_⟩
  rw [r1.length]
  exact q _ _ _ _ _ h S (Same.refl _) (.int _)

/-! ### isinstance of what is no instance -/
def tyN : D → Option String
  | .non => some "NoneType"
  | .bl _ => some "bool"
  | .int _ => some "int"
  | .str _ => some "str"
  | .tup _ => some "tuple"
  | .lst _ => some "list"
  | .dK _ => some "dict"
  | .dT _ => some "dict"
  | .ins _ _ => none
  | .raw _ => none
  | .exc _ _ _ _ => none
  | .cl _ _ => none
theorem tyX_of {K : PySem.W.Frag} {Hn H : Hp} {v : V} {d : D} {n : String} (e : Same Hn H) (r : Is K Hn v d) (h : tyN d = some n) : TyX K H v (.type n) := by
  cases r with
  | non => cases h; exact .base .non
  | bl b => cases h; exact .base (.bl b)
  | int i => cases h; exact .base (.int i)
  | str x => cases h; exact .base (.str x)
  | tup t _ =>
    cases h
    rcases t with t | ⟨_, (t | ⟨o, t⟩) | ⟨o, its, n, t, c, _⟩⟩
    · exact .base (.tup (e _ _ t))
    · exact .base (.tup (e _ _ t))
    · exact .fTuple (e _ _ t)
    · exact .kTuple t c
  | lst t _ => cases h; exact .base (.lst (e _ _ t))
  | dK t _ => cases h; exact .base (.dK (e _ _ t))
  | dT t _ => cases h; exact .base (.dT (e _ _ t))
  | ins _ _ => cases h
  | raw _ => cases h
  | exc _ _ => cases h
  | cl _ => cases h
theorem cd_isi {d : D} {n m : String} {b : Bool} (hn : tyN d = some n) (hb : kitB n m = some b) (h : Φ (.bl b) M) : CallD X (.builtin "isinstance") [d, .raw (.ty m)] M Φ := fun B Γ Hn H σ vs Q S rr q => by
  obtain ⟨v, v2, rfl, r, r2⟩ := rr.two
  clear rr
  cases r2
  exact ⟨_, call_isi, v, _, _, _, b, rfl, .ty m, tyX_of S.rep.sub r hn, kit_ty hb, q _ _ _ _ _ h S (Same.refl _) (.bl _)⟩
/-- isinstance(x, C), x plain, C a class of the program's own -/
theorem cd_isiC {d : D} {n : String} {C : Addr} {b : Bool} (hn : tyN d = some n) (hb : PySem.W.kitOne X.K (.type n) (.ref C) = some b) (h : Φ (.bl b) M) : CallD X (.builtin "isinstance") [d, .raw (.ref C)] M Φ := fun B Γ Hn H σ vs Q S rr q => by
  obtain ⟨v, v2, rfl, r, r2⟩ := rr.two
  clear rr
  cases r2
  exact ⟨_, call_isi, v, _, _, _, b, rfl, .own C, tyX_of S.rep.sub r hn, hb, q _ _ _ _ _ h S (Same.refl _) (.bl _)⟩
/-- what isinstance asks of an own class -/
structure IsiC (K : PySem.W.Frag) (C : Addr) : Prop where
  cl : Cls K C
  ha : PySem.W.findIn K (.ref C) "__class__" = some (some (.builtin "object.__class__"))
  hn : PySem.W.specialIn K (.builtin "object.__class__") "__get__" = some (some (.builtin "getset_descriptor.__get__"))
  htk : PySem.W.takesIn K (.builtin "object.__class__") = some true
  hm : PySem.W.mroIn K C (.type "object") = some true
theorem cd_isiI {C C' : Addr} {fs : List (Str × D)} {b : Bool} (T : IsiC X.K C) (hb : PySem.W.kitOne X.K (.ref C) (.ref C') = some b) (h : Φ (.bl b) M) : CallD X (.builtin "isinstance") [.ins C fs, .raw (.ref C')] M Φ := fun B Γ Hn H σ vs Q S rr q => by
  obtain ⟨v, v2, rfl, r, r2⟩ := rr.two
  clear rr
  cases r2
  cases r with
  | ins h1 _ => exact ⟨_, call_isi, _, _, _, _, b, rfl, .own C', .base (.ins (S.rep.sub _ _ h1) T.cl T.ha T.hn T.htk T.hm), hb, q _ _ _ _ _ h S (Same.refl _) (.bl _)⟩
theorem cd_isiIT {C : Addr} {fs : List (Str × D)} {m : String} {b : Bool} (T : IsiC X.K C) (hb : PySem.W.kitOne X.K (.ref C) (.type m) = some b) (h : Φ (.bl b) M) : CallD X (.builtin "isinstance") [.ins C fs, .raw (.ty m)] M Φ := fun B Γ Hn H σ vs Q S rr q => by
  obtain ⟨v, v2, rfl, r, r2⟩ := rr.two
  clear rr
  cases r2
  cases r with
  | ins h1 _ => exact ⟨_, call_isi, _, _, _, _, b, rfl, .ty m, .base (.ins (S.rep.sub _ _ h1) T.cl T.ha T.hn T.htk T.hm), hb, q _ _ _ _ _ h S (Same.refl _) (.bl _)⟩
/-- isinstance(x, (T1, T2)), the tuple of built-in classes made just then -/
theorem kitAny_tys {K : PySem.W.Frag} {n : String} : ∀ {ms : List String} {b : Bool}, (ms.foldr (fun m r => (kitB n m).bind fun k => if k then some true else r) (some false)) = some b → PySem.W.kitAny K (.type n) (ms.map Value.type) = some b
  | [], b, h => h
  | m :: ms, b, h => by
    have h' : ((kitB n m).bind fun k => if k = true then some true else ms.foldr (fun m r => (kitB n m).bind fun k => if k then some true else r) (some false)) = some b := h
    cases hk : kitB n m with
    | none => rw [hk] at h'; cases h'
    | some k =>
      rw [hk, Option.bind_some] at h'
      cases k with
      | true =>
        cases h'
        exact kitAny_cons (kit_ty hk) (fun z => nomatch z) fun _ => rfl
      | false => exact kitAny_cons (kit_ty hk) (fun _ => kitAny_tys h') fun z => nomatch z
theorem isA_tys {K : PySem.W.Frag} {H : Hp} : ∀ {ms : List String} {ws : List V}, IsA K H ws (ms.map fun m => .raw (.ty m)) → Paired ClsV ws (ms.map Value.type)
  | [], _, .nil => .nil
  | m :: ms, _, .cons a b => by
    cases a
    exact .cons (.ty m) (isA_tys b)
/-- isinstance(x, (T1, T2)) -/
theorem je_isi2 {x1 x2 : Str} {T1 T2 : String} {p1 p2 pt : Pos} {kt} (hm : X.mg "isinstance" = none) (hm1 : X.mg x1 = none) (hv1 : bootBuiltins x1 = some (.type T1)) (hm2 : X.mg x2 = none) (hv2 : bootBuiltins x2 = some (.type T2))
    (h : JE X Γ M e (fun d M1 => ∃ n b, tyN d = some n ∧ ([T1, T2].foldr (fun m r => (kitB n m).bind fun k => if k then some true else r) (some false)) = some b ∧ Φ (.bl b) M1) Ψ) (hg : Gl X "isinstance" := by rfl) (hg1 : Gl X x1 := by rfl) (hg2 : Gl X x2 := by rfl)
    (hn1 : x1 ≠ "__name__" := by decide) (hdb1 : (x1 == ("__debug__" : Str)) = false := by decide) (hn2 : x2 ≠ "__name__" := by decide) (hdb2 : (x2 == ("__debug__" : Str)) = false := by decide)
    (hs1 : starEach [.Name x1 p1, .Name x2 p2] X.env = (false, eval (.Name x1 p1) X.env) :: starEach [.Name x2 p2] X.env := by rfl) (hs2 : starEach [.Name x2 p2] X.env = (false, eval (.Name x2 p2) X.env) :: starEach [] X.env := by rfl)
    (hs3 : starEach [e, .Tuple [.Name x1 p1, .Name x2 p2] kt pt] X.env = (false, eval e X.env) :: starEach [.Tuple [.Name x1 p1, .Name x2 p2] kt pt] X.env := by rfl)
    (hs4 : starEach [.Tuple [.Name x1 p1, .Name x2 p2] kt pt] X.env = (false, eval (.Tuple [.Name x1 p1, .Name x2 p2] kt pt) X.env) :: starEach [] X.env := by rfl)
    (hpl : (backTo pos (starEach [.Tuple [.Name x1 p1, .Name x2 p2] kt pt] X.env)).any (·.1) = false := by rfl) : JE X Γ M (.Call (.Name "isinstance" p) [e, .Tuple [.Name x1 p1, .Name x2 p2] kt pt] [] pos) Φ Ψ := fun B Hn H σ S A Q q => by
  refine run_pe (pe_callB call_isiT hg hm (by decide +kernel) (pa_cons pe_run (pa_cons (pe_tup (pa_cons (pe_bltn (v := .ty T1) hg1 hm1 hv1 rfl hn1 hdb1) (pa_cons (pe_bltn (v := .ty T2) hg2 hm2 hv2 rfl hn2 hdb2) pa_nil hs2) hs1)) pa_nil hs4) hs3) (by decide) (by decide) hs3 hpl) ?_
  refine h B Hn H σ S A _ fun v d M1 Hn1 H1 p1 S1 e1 r1 => ?_
  obtain ⟨n, b, hn, hb, p1⟩ := p1
  refine ⟨by show 2 ≤ sizeLine; rw [sizeLine_eq]; omega, fun t ht => ?_⟩
  have hh := S1.rep.nn ht
  refine ⟨v, t, [.ty T1, .ty T2], _, [.type T1, .type T2], b, rfl, upd_same, .cons (.ty T1) (.cons (.ty T2) .nil), tyX_of (S1.rep.sub.trans (same_upd ht)) r1 hn, kitAny_tys (ms := [T1, T2]) hb, ?_⟩
  exact q _ _ _ _ _ p1 (S1.alloc ht) (e1.trans (same_upd hh)) (.bl b)

/-! ### all, any, sorted, list, tuple, str, int, min -/
theorem isA_bools {K : PySem.W.Frag} {H : Hp} : ∀ {bs : List Bool} {ws : List V}, IsA K H ws (bs.map D.bl) → ws = bs.map V.bl
  | [], _, .nil => rfl
  | b :: bs, _, .cons a r => by
    cases a
    rw [List.map_cons, isA_bools r]
theorem cd_all {bs : List Bool} (hc : X.calm = true) (h : Φ (.bl (bs.all id)) M) : CallD X (.builtin "all") [.lst (bs.map D.bl)] M Φ := fun B Γ Hn H σ vs Q S rr q => by
  obtain ⟨v, rfl, r⟩ := rr.one
  clear rr
  cases r with
  | @lst a ws _ h1 r1 =>
    have e := isA_bools r1
    subst e
    exact ⟨_, cr_all hc, a, bs, rfl, SqL.of (S.rep.sub _ _ h1), q _ _ _ _ _ h S (Same.refl _) (.bl _)⟩
theorem cd_any {bs : List Bool} (hc : X.calm = true) (h : Φ (.bl (bs.any id)) M) : CallD X (.builtin "any") [.lst (bs.map D.bl)] M Φ := fun B Γ Hn H σ vs Q S rr q => by
  obtain ⟨v, rfl, r⟩ := rr.one
  clear rr
  cases r with
  | @lst a ws _ h1 r1 =>
    have e := isA_bools r1
    subst e
    exact ⟨_, cr_any hc, a, bs, rfl, SqL.of (S.rep.sub _ _ h1), q _ _ _ _ _ h S (Same.refl _) (.bl _)⟩
theorem cd_list {xs : List D} (h : Φ (.lst xs) M) : CallD X (.type "list") [.lst xs] M Φ := fun B Γ Hn H σ vs Q S rr q => by
  obtain ⟨v, rfl, r⟩ := rr.one
  clear rr
  cases r with
  | @lst a ws _ h1 r1 =>
    refine ⟨_, call_list_of, a, ws, rfl, .inl (SqL.of (S.rep.sub _ _ h1)), fun t ht => ?_⟩
    have hn := S.rep.nn ht
    exact q _ _ _ _ _ h (S.alloc ht) (same_upd hn) (.lst upd_same (r1.mono (same_upd hn)))
theorem cd_listT {xs : List D} (h : Φ (.lst xs) M) : CallD X (.type "list") [.tup xs] M Φ := fun B Γ Hn H σ vs Q S rr q => by
  obtain ⟨v, rfl, r⟩ := rr.one
  clear rr
  cases r with
  | @tup a ws _ h1 r1 =>
    refine ⟨_, call_list_of, a, ws, rfl, .inr (same_t S.rep.sub h1), fun t ht => ?_⟩
    have hn := S.rep.nn ht
    exact q _ _ _ _ _ h (S.alloc ht) (same_upd hn) (.lst upd_same (r1.mono (same_upd hn)))
/-- list(xs) as a list that may change -/
theorem cd_listC {xs : List D} (h : ∀ t, Φ (.raw (.ref t)) (M ++ [(t, .lst xs)])) : CallD X (.type "list") [.lst xs] M Φ := fun B Γ Hn H σ vs Q S rr q => by
  obtain ⟨v, rfl, r⟩ := rr.one
  clear rr
  cases r with
  | @lst a ws _ h1 r1 =>
    exact ⟨_, call_list_of, a, ws, rfl, .inl (SqL.of (S.rep.sub _ _ h1)), fun t ht => q _ _ _ _ _ (h t) (S.cell ht ⟨ws, upd_same, r1⟩) (Same.refl _) (.raw _)⟩
theorem cd_listTC {xs : List D} (h : ∀ t, Φ (.raw (.ref t)) (M ++ [(t, .lst xs)])) : CallD X (.type "list") [.tup xs] M Φ := fun B Γ Hn H σ vs Q S rr q => by
  obtain ⟨v, rfl, r⟩ := rr.one
  clear rr
  cases r with
  | @tup a ws _ h1 r1 =>
    exact ⟨_, call_list_of, a, ws, rfl, .inr (same_t S.rep.sub h1), fun t ht => q _ _ _ _ _ (h t) (S.cell ht ⟨ws, upd_same, r1⟩) (Same.refl _) (.raw _)⟩
theorem cd_tuple {xs : List D} (h : Φ (.tup xs) M) : CallD X (.type "tuple") [.lst xs] M Φ := fun B Γ Hn H σ vs Q S rr q => by
  obtain ⟨v, rfl, r⟩ := rr.one
  clear rr
  cases r with
  | @lst a ws _ h1 r1 =>
    refine ⟨_, call_tuple_of, a, ws, rfl, .inl ⟨SqL.of (S.rep.sub _ _ h1), fun t ht => ?_⟩⟩
    have hn := S.rep.nn ht
    exact q _ _ _ _ _ h (S.alloc ht) (same_upd hn) (.tup (.inl upd_same) (r1.mono (same_upd hn)))
theorem cd_tupleT {xs : List D} (h : Φ (.tup xs) M) : CallD X (.type "tuple") [.tup xs] M Φ := fun B Γ Hn H σ vs Q S rr q => by
  obtain ⟨v, rfl, r⟩ := rr.one
  clear rr
  cases r with
  | @tup a ws _ h1 r1 => exact ⟨_, call_tuple_of, a, ws, rfl, .inr ⟨same_t S.rep.sub h1, q _ _ _ _ _ h S (Same.refl _) (.tup h1 r1)⟩⟩
/-- tuple of a list that may change -/
theorem cd_tupleC (k : Nat) {t : Addr} {xs : List D} (hk : M[k]? = some (t, .lst xs)) (h : Φ (.tup xs) M) : CallD X (.type "tuple") [.raw (.ref t)] M Φ := fun B Γ Hn H σ vs Q S rr q => by
  obtain ⟨v, rfl, r⟩ := rr.one
  clear rr
  cases r
  obtain ⟨ws, h1, r1⟩ := (S.rep.cell _ (List.mem_of_getElem? hk)).2
  refine ⟨_, call_tuple_of, t, ws, rfl, .inl ⟨SqL.of h1, fun t ht => ?_⟩⟩
  have hn := S.rep.nn ht
  exact q _ _ _ _ _ h (S.alloc ht) (same_upd hn) (.tup (.inl upd_same) (r1.mono (same_upd hn)))
theorem cd_strI {i : Int} (hb : i.natAbs.log2 < 1920) (h : Φ (.str (toString i)) M) : CallD X (.type "str") [.int i] M Φ := fun B Γ Hn H σ vs Q S rr q => by
  obtain ⟨v, rfl, r⟩ := rr.one
  clear rr
  cases r
  exact ⟨_, call_str_int, i, rfl, hb, q _ _ _ _ _ h S (Same.refl _) (.str _)⟩
theorem cd_intI {i : Int} (h : Φ (.int i) M) : CallD X (.type "int") [.int i] M Φ := fun B Γ Hn H σ vs Q S rr q => by
  obtain ⟨v, rfl, r⟩ := rr.one
  clear rr
  cases r
  exact ⟨_, call_int1, .inl ⟨i, rfl, q _ _ _ _ _ h S (Same.refl _) (.int _)⟩⟩
theorem cd_min2 {i j : Int} (hc : X.calm = true) (h : Φ (.int (if j < i then j else i)) M) : CallD X (.builtin "min") [.int i, .int j] M Φ := fun B Γ Hn H σ vs Q S rr q => by
  obtain ⟨v, v2, rfl, r, r2⟩ := rr.two
  clear rr
  cases r; cases r2
  exact ⟨_, call_min2 hc, i, j, rfl, q _ _ _ _ _ h S (Same.refl _) (.int _)⟩
/-- the keys of a dict whose keys are tuples -/
theorem isKeys_tup {K : PySem.W.Frag} {H : Hp} : ∀ {ks : List (List Key × V)} {ds : List (D × D)} {bs : List Addr}, IsT K H ks ds → IsKeys H ks bs → IsA K H (bs.map V.ref) (ds.map (·.1))
  | _, _, _, .nil, .nil => .nil
  | _, _, _, .cons (k := k) a r, .cons e t => by
    refine .cons (.tup (.inl e) ?_) (isKeys_tup r t)
    have ki : ∀ l : List Key, IsA K H (l.map kV) (l.map keyD) := by
      intro l
      induction l with
      | nil => exact .nil
      | cons x l ih =>
        refine .cons ?_ ih
        cases x with
        | inl i => exact .int i
        | inr x => exact .str x
    exact ki k
/-- x < y, of plain data -/
def leD (x y : D) : Bool := PySem.W.dataLe false py x y
def sortD (xs : List D) : List D := xs.mergeSort leD
theorem cr_sortedD (hu : X.A.units + 64 < cLine) : CallR X (.builtin "sorted") (fun vs H Q => ∃ (a : Addr) (bs : List (V × D)), vs = [.ref a] ∧ SqL X.K H a (bs.map (·.1)) ∧ (∀ b ∈ bs, Dp X.K H b.1 (py b.2)) ∧
    PySem.W.AllAlike (bs.map fun b => py b.2) ∧ PySem.W.Sortable (bs.map fun b => py b.2) ∧ (∀ b ∈ bs, (py b.2).depth ≤ 32) ∧ ∀ p, H p = none → Q (.ref p) (upd H p (.lst ((bs.mergeSort (PySem.W.dataLe false fun b => py b.2)).map (·.1))))) := by
  intro pins s σ H vs us Q I r h
  obtain ⟨a, bs, rfl, hs, hd, hal, hk, hz, q⟩ := h
  obtain ⟨its, rv, hl, hlen⟩ := I.list hs
  rw [Vals.ref1 r]
  have each : ∀ (bs : List (V × D)) (its : List Value), Vals (bs.map (·.1)) its → (∀ b ∈ bs, Dp X.K H b.1 (py b.2)) → PySem.W.EachIs (fun (u : Value) (b : V × D) => RelV b.1 u) its bs ∧ PySem.W.EachIs (fun (u : Value) (b : V × D) => ∃ as, Reads s.heap u (py b.2) as) its bs := by
    intro bs
    induction bs with
    | nil =>
      intro its r _
      cases r
      exact ⟨.nil, .nil⟩
    | cons b bs ih =>
      intro its r hd
      cases r with
      | cons r1 r2 =>
        obtain ⟨e1, e2⟩ := ih _ r2 fun b hb => hd b (List.mem_cons_of_mem _ hb)
        exact ⟨.cons r1 e1, .cons (Dp.reads I _ _ _ (hd b List.mem_cons_self) r1) e2⟩
  obtain ⟨e1, e2⟩ := each bs its rv hd
  refine PySem.W.sorted_data hl.isList e1 e2 hal hk (by rw [List.length_map] at hlen; exact hlen) (fun b hb => by have := hz b hb; omega) fun out ho eo => ?_
  obtain ⟨ep, he'⟩ := PyProof.Rows.sortedAll_at s.heap its out.toArray
  have vo : ∀ (l : List (V × D)) (o : List Value), PySem.W.EachIs (fun (u : Value) (b : V × D) => RelV b.1 u) o l → Vals (l.map (·.1)) o := by
    intro l
    induction l with
    | nil =>
      intro o e
      cases e
      exact .nil
    | cons b l ih =>
      intro o e
      cases e with
      | cons a r => exact .cons a (ih _ r)
  have hz2 : ((bs.mergeSort (PySem.W.dataLe false fun b => py b.2)).map (·.1)).length ≤ sizeLine := by
    rw [List.length_map, List.length_mergeSort]
    rw [List.length_map] at hlen
    exact hlen
  exact ⟨.ref _, upd H (s.heap.objs.size + 1) (.lst ((bs.mergeSort (PySem.W.dataLe false fun b => py b.2)).map (·.1))), I.laid (t' := s.toks) (fun _ _ => PyProof.Rows.sortedAll_old) (Nat.le_succ _) ⟨hz2, out, ep, vo _ _ eo, he'⟩, rfl, q _ (I.hok.fresh (Nat.le_succ _))⟩
theorem isA_zip {K : PySem.W.Frag} {H : Hp} : ∀ {ws : List V} {ds : List D}, IsA K H ws ds → (ws.zip ds).map (·.1) = ws ∧ (ws.zip ds).map (·.2) = ds ∧ ∀ b ∈ ws.zip ds, Is K H b.1 b.2
  | _, _, .nil => ⟨rfl, rfl, fun b hb => by simp at hb⟩
  | _, _, .cons a r => by
    obtain ⟨h1, h2, h3⟩ := isA_zip r
    refine ⟨by rw [List.zip_cons_cons, List.map_cons, h1], by rw [List.zip_cons_cons, List.map_cons, h2], fun b hb => ?_⟩
    rw [List.zip_cons_cons] at hb
    rcases List.mem_cons.mp hb with e | hb
    · rw [e]; exact a
    · exact h3 b hb
theorem zip_isA {K : PySem.W.Frag} {H : Hp} : ∀ {l : List (V × D)}, (∀ b ∈ l, Is K H b.1 b.2) → IsA K H (l.map (·.1)) (l.map (·.2))
  | [], _ => .nil
  | b :: l, h => .cons (h b List.mem_cons_self) (zip_isA fun b hb => h b (List.mem_cons_of_mem _ hb))
theorem cd_sorted {xs : List D} (hu : X.A.units + 64 < cLine) (hp : xs.all plain = true) (hal : PySem.W.AllAlike (xs.map py)) (hk : PySem.W.Sortable (xs.map py)) (hz : ∀ x ∈ xs, (py x).depth ≤ 32) (h : Φ (.lst (sortD xs)) M) : CallD X (.builtin "sorted") [.lst xs] M Φ := fun B Γ Hn H σ vs Q S rr q => by
  obtain ⟨v, rfl, r⟩ := rr.one
  clear rr
  cases r with
  | @lst a ws _ h1 r1 =>
    obtain ⟨z1, z2, z3⟩ := isA_zip r1
    have em : (ws.zip xs).map (fun b => py b.2) = xs.map py := by
      rw [show (ws.zip xs).map (fun b => py b.2) = ((ws.zip xs).map (·.2)).map py from by rw [List.map_map]; rfl, z2]
    have mem : ∀ b ∈ ws.zip xs, b.2 ∈ xs := fun b hb => by rw [← z2]; exact List.mem_map_of_mem hb
    refine ⟨_, cr_sortedD hu, a, ws.zip xs, rfl, by rw [z1]; exact SqL.of (S.rep.sub _ _ h1), fun b hb => (z3 b hb).dp S.rep.sub (List.all_eq_true.mp hp _ (mem b hb)), by rw [em]; exact hal, by rw [em]; exact hk, fun b hb => hz _ (mem b hb), fun t ht => ?_⟩
    have hn := S.rep.nn ht
    have e2 : ((ws.zip xs).mergeSort (PySem.W.dataLe false fun b => py b.2)).map (·.2) = sortD xs := by
      unfold sortD
      exact (List.map_mergeSort (r := PySem.W.dataLe false fun b : V × D => py b.2) (s := leD) (f := fun b : V × D => b.2) (fun a _ b _ => rfl)).trans (by rw [z2])
    have rr := zip_isA (K := X.K) (H := upd Hn t (.lst (((ws.zip xs).mergeSort (PySem.W.dataLe false fun b => py b.2)).map (·.1)))) (l := (ws.zip xs).mergeSort (PySem.W.dataLe false fun b => py b.2)) fun b hb => (z3 b (List.mem_mergeSort.mp hb)).mono (same_upd hn)
    rw [e2] at rr
    exact q _ _ _ _ _ h (S.alloc ht) (same_upd hn) (.lst upd_same rr)

/-! ### subscripts, slices -/
theorem je_ixL (h : JE X Γ M a (fun x M1 => JE X Γ M1 b (fun y M2 => ∃ xs i d, x = .lst xs ∧ y = .int i ∧ atI xs i = some d ∧ Φ d M2) Ψ) Ψ) (hs : PlainIx b := by exact fun _ _ => rfl) : JE X Γ M (.Subscript a b pos) Φ Ψ := fun B Hn H σ S A Q q => by
  refine run_pe (pe_ix ix_list pe_run pe_run hs) ?_
  refine h B Hn H σ S A _ fun v d M1 Hn1 H1 p S1 e1 r1 => ?_
  refine p B Hn1 H1 σ S1 (A.mono e1) _ fun u d2 M2 Hn2 H2 p2 S2 e2 r2 => ?_
  obtain ⟨xs, i, z, rfl, rfl, hz, p2⟩ := p2
  cases r2
  have r1 := r1.mono e2
  cases r1 with
  | @lst t ws _ h1 r1 =>
    have : ∃ v, atI ws i = some v ∧ Is X.K Hn2 v z := by
      unfold atI at hz ⊢
      rw [r1.length]
      cases hx : ixN xs.length i with
      | none => rw [hx] at hz; cases hz
      | some j =>
        rw [hx] at hz
        exact r1.get hz
    obtain ⟨v, hv, rv⟩ := this
    exact ⟨t, ws, i, v, rfl, rfl, SqL.of (S2.rep.sub _ _ h1), hv, q _ _ _ _ _ p2 S2 (e1.trans e2) rv⟩
theorem je_ixT (h : JE X Γ M a (fun x M1 => JE X Γ M1 b (fun y M2 => ∃ xs i d, x = .tup xs ∧ y = .int i ∧ atI xs i = some d ∧ Φ d M2) Ψ) Ψ) (hs : PlainIx b := by exact fun _ _ => rfl) : JE X Γ M (.Subscript a b pos) Φ Ψ := fun B Hn H σ S A Q q => by
  refine run_pe (pe_ix ix_tup pe_run pe_run hs) ?_
  refine h B Hn H σ S A _ fun v d M1 Hn1 H1 p S1 e1 r1 => ?_
  refine p B Hn1 H1 σ S1 (A.mono e1) _ fun u d2 M2 Hn2 H2 p2 S2 e2 r2 => ?_
  obtain ⟨xs, i, z, rfl, rfl, hz, p2⟩ := p2
  cases r2
  have r1 := r1.mono e2
  cases r1 with
  | @tup t ws _ h1 r1 =>
    have : ∃ v, atI ws i = some v ∧ Is X.K Hn2 v z := by
      unfold atI at hz ⊢
      rw [r1.length]
      cases hx : ixN xs.length i with
      | none => rw [hx] at hz; cases hz
      | some j =>
        rw [hx] at hz
        exact r1.get hz
    obtain ⟨v, hv, rv⟩ := this
    exact ⟨t, ws, i, v, rfl, rfl, same_t S2.rep.sub h1, hv, q _ _ _ _ _ p2 S2 (e1.trans e2) rv⟩
theorem je_ixS (h : JE X Γ M a (fun x M1 => JE X Γ M1 b (fun y M2 => ∃ z i c, x = .str z ∧ y = .int i ∧ z.length ≤ 1000000 ∧ atI z.cps.toList i = some c ∧ Φ (.str ⟨#[c]⟩) M2) Ψ) Ψ) (hs : PlainIx b := by exact fun _ _ => rfl) : JE X Γ M (.Subscript a b pos) Φ Ψ := fun B Hn H σ S A Q q => by
  refine run_pe (pe_ix ix_str pe_run pe_run hs) ?_
  refine h B Hn H σ S A _ fun v d M1 Hn1 H1 p S1 e1 r1 => ?_
  refine p B Hn1 H1 σ S1 (A.mono e1) _ fun u d2 M2 Hn2 H2 p2 S2 e2 r2 => ?_
  obtain ⟨z, i, c, rfl, rfl, hl, hz, p2⟩ := p2
  cases r2
  cases r1
  exact ⟨z, i, c, rfl, rfl, by rw [sizeLine_eq]; omega, hz, q _ _ _ _ _ p2 S2 (e1.trans e2) (.str _)⟩
end
end DL
end

section
set_option Elab.async false
set_option linter.all false
set_option maxRecDepth 100000
set_option maxHeartbeats 4000000
/-! Slices, dicts, methods, fields, defs that are called, iteration, comprehensions. -/
namespace DL
open PySem PySem.Spec PyProof.Rows L2

section
variable {X : Cx} {Γ : Sl} {M : Mem} {Φ : D → Mem → Prop} {Ψ : XP} {a b c e o : Expr} {es : List Expr} {pos p pos2 apos cpos : Pos}
/-! ### slices -/
def RunO (X : Cx) (e : Option Expr) (σ : L2.St) (H : Hp) (Q : Option Int → Hp → Prop) : Prop := ∀ pins s, Inv X pins σ H s → wpAny (model X.prog X.w) X.A (evalPart e X.env) (fun u s' => ∃ o H', Inv X pins σ H' s' ∧ IsPart u o ∧ Q o H') X.xe s
theorem po_run {X : Cx} {e : Option Expr} : PO X e (RunO X e) := ⟨fun pins s σ H Q I h => h pins s I⟩
def JO (X : Cx) (Γ : Sl) (M : Mem) (e : Option Expr) (Φ : Option Int → Mem → Prop) (Ψ : XP) : Prop :=
  ∀ B Hn H σ, SR X.K B M Γ Hn H σ → Air X B Γ Hn σ Ψ → ∀ Q : Option Int → Hp → Prop, (∀ o M' Hn' H', Φ o M' → SR X.K B M' Γ Hn' H' σ → Same Hn Hn' → Q o H') → RunO X e σ H Q
theorem jo_none {Φ : Option Int → Mem → Prop} (h : Φ none M) : JO X Γ M none Φ Ψ := fun B Hn H σ S A Q q pins s I => po_none.run pins s σ H Q I (q _ _ _ _ h S (Same.refl _))
theorem jo_some {Φ : Option Int → Mem → Prop} (h : JE X Γ M e (fun d M1 => ∃ i, d = .int i ∧ Φ (some i) M1) Ψ) : JO X Γ M (some e) Φ Ψ := fun B Hn H σ S A Q q pins s I => (po_some pe_run).run pins s σ H Q I (by
  refine h B Hn H σ S A _ fun v d M1 Hn1 H1 p S1 e1 r1 => ?_
  obtain ⟨i, rfl, p⟩ := p
  cases r1
  exact ⟨i, rfl, q _ _ _ _ p S1 e1⟩)
def cutD {α : Type} (xs : List α) (lo hi : Option Int) : List α := (xs.drop (HT.sIx xs.length 0 lo)).take (HT.sIx xs.length xs.length hi - HT.sIx xs.length 0 lo)
theorem cutD_V (xs : List V) (lo hi : Option Int) : cutV xs lo hi = cutD xs lo hi := rfl
theorem IsA.cut {K : PySem.W.Frag} {H : Hp} {vs : List V} {ds : List D} (h : IsA K H vs ds) (lo hi : Option Int) : IsA K H (cutV vs lo hi) (cutD ds lo hi) := by
  unfold cutV cutD
  rw [h.length]
  exact (h.drop _).take _
theorem cutD_whole {α : Type} {xs : List α} {lo hi : Option Int} (h : HT.sIx xs.length 0 lo = 0 ∧ HT.sIx xs.length xs.length hi = xs.length) : cutD xs lo hi = xs := by
  unfold cutD
  rw [h.1, h.2]
  simp
/-- what a slice of data is -/
def slD (x : D) (lo hi : Option Int) : Option D := match x with
  | .lst xs => some (.lst (cutD xs lo hi))
  | .tup xs => some (.tup (cutD xs lo hi))
  | .str z => some (.str (cutS z lo hi))
  | _ => none
def rSlAny (X : Cx) : V → Option Int → Option Int → Hp → VK → Prop := fun x lo hi H Q => ∃ r, SlR X r ∧ r x lo hi H Q
theorem sl_any : SlR X (rSlAny X) := by
  intro pins s σ H x v vl vu lo hi sl Q I rx hs pl pu h
  obtain ⟨r, hr, h⟩ := h
  exact hr pins s σ H x v vl vu lo hi sl Q I rx hs pl pu h
theorem je_slice {lo hi : Option Expr} (h : JE X Γ M e (fun x M1 => JO X Γ M1 lo (fun l M2 => JO X Γ M2 hi (fun u M3 => small x ∧ ∃ d, slD x l u = some d ∧ Φ d M3) Ψ) Ψ) Ψ) : JE X Γ M (.Subscript e (.Slice lo hi none pos2) pos) Φ Ψ := fun B Hn H σ S A Q q => by
  refine run_pe (pe_slice sl_any pe_run po_run po_run) ?_
  refine h B Hn H σ S A _ fun v d M1 Hn1 H1 p1 S1 e1 r1 => ?_
  refine p1 B Hn1 H1 σ S1 (A.mono e1) _ fun l M2 Hn2 H2 p2 S2 e2 => ?_
  refine p2 B Hn2 H2 σ S2 (A.mono (e1.trans e2)) _ fun u M3 Hn3 H3 p3 S3 e3 => ?_
  obtain ⟨hsm, z, hz, p3⟩ := p3
  have r4 := (r1.mono e2).mono e3
  have e13 := (e1.trans e2).trans e3
  clear r1
  cases r4 with
  | @lst t ws xs h1 r1 =>
    cases hz
    refine ⟨_, sl_list, t, ws, rfl, SqL.of (S3.rep.sub _ _ h1), fun p hp => ?_⟩
    have hn := S3.rep.nn hp
    exact q _ _ _ _ _ p3 (S3.alloc hp) (e13.trans (same_upd hn)) (.lst upd_same ((r1.cut l u).mono (same_upd hn)))
  | @tup t ws xs h1 r1 =>
    cases hz
    refine ⟨_, sl_tupA, t, ws, rfl, same_t S3.rep.sub h1, fun w => ?_, fun _ p hp => ?_⟩
    · rw [r1.length] at w
      rw [cutD_whole w] at p3
      exact q _ _ _ _ _ p3 S3 e13 (.tup h1 r1)
    · have hn := S3.rep.nn hp
      exact q _ _ _ _ _ p3 (S3.alloc hp) (e13.trans (same_upd hn)) (.tup (.inl upd_same) ((r1.cut l u).mono (same_upd hn)))
  | str x =>
    cases hz
    have hsm : x.length ≤ 1000000 := hsm
    exact ⟨_, sl_str, x, rfl, by rw [sizeLine_eq]; omega, q _ _ _ _ _ p3 S3 e13 (.str _)⟩
  | non => cases hz
  | bl _ => cases hz
  | int _ => cases hz
  | dK _ _ => cases hz
  | dT _ _ => cases hz
  | ins _ _ => cases hz
  | raw _ => cases hz
  | exc _ _ => cases hz
  | cl _ => cases hz

/-! ### dicts -/
theorem kV_of {K : PySem.W.Frag} {H : Hp} {v : V} {j : Key} (h : Is K H v (keyD j)) : v = kV j := by
  cases j <;> cases h <;> rfl
theorem isA_keys {K : PySem.W.Frag} {H : Hp} : ∀ {j : List Key} {ws : List V}, IsA K H ws (j.map keyD) → ws = j.map kV
  | [], _, .nil => rfl
  | x :: j, _, .cons a b => by rw [List.map_cons, kV_of a, isA_keys b]
theorem tk_of {K : PySem.W.Frag} {Hn H : Hp} {v : V} {j : List Key} (e : Same Hn H) (hj : j ≠ []) (h : Is K Hn v (tkD j)) : ∃ t, v = .ref t ∧ H t = some (.tup (j.map kV)) := by
  unfold tkD at h
  cases h with
  | @tup t ws _ ht ra =>
    have ew := isA_keys ra
    rcases ht with ht | ⟨e0, _⟩
    · exact ⟨t, rfl, by rw [← ew]; exact e _ _ ht⟩
    · rw [e0] at ew
      cases j with
      | nil => exact absurd rfl hj
      | cons x j => cases ew
/-- the dict that d stands for: data, or the cell at place k -/
def DicK (M : Mem) (x : D) (kvs : List (D × D)) : Prop := x = .dK kvs ∨ ∃ (k : Nat) (t : Addr), x = .raw (.ref t) ∧ M[k]? = some (t, .dK kvs)
def DicT (M : Mem) (x : D) (kvs : List (D × D)) : Prop := x = .dT kvs ∨ ∃ (k : Nat) (t : Addr), x = .raw (.ref t) ∧ M[k]? = some (t, .dT kvs)
theorem DicK.at {K : PySem.W.Frag} {M : Mem} {Hn H : Hp} {x : D} {v : V} {kvs : List (D × D)} (R : Rep K M Hn H) (r : Is K Hn v x) (h : DicK M x kvs) : ∃ a ks, v = .ref a ∧ H a = some (.dK ks) ∧ IsK K Hn ks kvs := by
  rcases h with rfl | ⟨k, t, rfl, hk⟩
  · cases r with
    | @dK a ks _ h1 r1 => exact ⟨a, ks, rfl, R.sub _ _ h1, r1⟩
  · cases r
    obtain ⟨ks, h1, r⟩ := (R.cell _ (List.mem_of_getElem? hk)).2
    exact ⟨t, ks, rfl, h1, r⟩
theorem DicT.at {K : PySem.W.Frag} {M : Mem} {Hn H : Hp} {x : D} {v : V} {kvs : List (D × D)} (R : Rep K M Hn H) (r : Is K Hn v x) (h : DicT M x kvs) : ∃ a ks, v = .ref a ∧ H a = some (.dT ks) ∧ IsT K Hn ks kvs := by
  rcases h with rfl | ⟨k, t, rfl, hk⟩
  · cases r with
    | @dT a ks _ h1 r1 => exact ⟨a, ks, rfl, R.sub _ _ h1, r1⟩
  · cases r
    obtain ⟨ks, h1, r⟩ := (R.cell _ (List.mem_of_getElem? hk)).2
    exact ⟨t, ks, rfl, h1, r⟩
/-- what x holds at the key y: z -/
def DicHas (M : Mem) (x y : D) (z : Option D) : Prop := (∃ kvs j, DicK M x kvs ∧ y = keyD j ∧ lkD kvs y = z) ∨ ∃ kvs j, DicT M x kvs ∧ j ≠ [] ∧ y = tkD j ∧ lkD kvs y = z
theorem DicHas.get {K : PySem.W.Frag} {M : Mem} {Hn H : Hp} {x y : D} {v u : V} {z : Option D} (R : Rep K M Hn H) (r : Is K Hn v x) (r2 : Is K Hn u y) (h : DicHas M x y z) :
    ∃ a w, v = .ref a ∧ DGet H a u w ∧ IsD H a ∧ ((∃ d e, z = some d ∧ w = some e ∧ Is K Hn e d) ∨ (z = none ∧ w = none)) := by
  rcases h with ⟨kvs, j, hd, rfl, rfl⟩ | ⟨kvs, j, hd, hj, rfl, rfl⟩
  · obtain ⟨a, ks, rfl, ha, rk⟩ := hd.at R r
    have e := kV_of r2
    subst e
    refine ⟨a, valV ks j, rfl, DGet.k ha, .inl ⟨ks, .inl ha⟩, ?_⟩
    rcases rk.get j with ⟨w, d, g1, g2, g3⟩ | ⟨g1, g2⟩
    · exact .inl ⟨d, w, g2, g1, g3⟩
    · exact .inr ⟨g2, g1⟩
  · obtain ⟨a, ks, rfl, ha, rk⟩ := hd.at R r
    obtain ⟨t, rfl, ht⟩ := tk_of R.sub hj r2
    refine ⟨a, valV ks j, rfl, DGet.t ha ht, .inr ⟨ks, .inl ha⟩, ?_⟩
    rcases rk.get j with ⟨w, d, g1, g2, g3⟩ | ⟨g1, g2⟩
    · exact .inl ⟨d, w, g2, g1, g3⟩
    · exact .inr ⟨g2, g1⟩
theorem je_dget (hu : X.A.units + 1 < cLine) (h : JE X Γ M o (fun x M1 => JE X Γ M1 b (fun y M2 => ∃ z, DicHas M2 x y (some z) ∧ Φ z M2) Ψ) Ψ) (hs : NoSl b := by exact fun _ _ => rfl) : JE X Γ M (.Subscript o b pos) Φ Ψ := fun B Hn H σ S A Q q => by
  refine run_pe (pe_dget hu pe_run pe_run hs) ?_
  refine h B Hn H σ S A _ fun v d M1 Hn1 H1 p1 S1 e1 r1 => ?_
  refine p1 B Hn1 H1 σ S1 (A.mono e1) _ fun u d2 M2 Hn2 H2 p2 S2 e2 r2 => ?_
  obtain ⟨z, hz, p2⟩ := p2
  obtain ⟨a, w, rfl, g, _, ⟨d, e, ed, rfl, re⟩ | ⟨e, _⟩⟩ := hz.get S2.rep (r1.mono e2) r2
  · cases ed
    exact ⟨a, e, rfl, g, q _ _ _ _ _ p2 S2 (e1.trans e2) re⟩
  · cases e
theorem je_in_dic {i : Expr} (hu : X.A.units + 1 < cLine) (h : JE X Γ M i (fun y M1 => JE X Γ M1 o (fun x M2 => ∃ z, DicHas M2 x y z ∧ Φ (.bl z.isSome) M2) Ψ) Ψ) (hm : behindInMarks .In o = false := by rfl) : JE X Γ M (.Compare i [.In] [o] pos) Φ Ψ := fun B Hn H σ S A Q q => by
  refine run_pe (pe_cmp (pc_din hu pe_run pe_run) hm) ?_
  refine h B Hn H σ S A _ fun u d M1 Hn1 H1 p1 S1 e1 r1 => ?_
  refine p1 B Hn1 H1 σ S1 (A.mono e1) _ fun v d2 M2 Hn2 H2 p2 S2 e2 r2 => ?_
  obtain ⟨z, hz, p2⟩ := p2
  obtain ⟨a, w, rfl, g, _, hw⟩ := hz.get S2.rep r2 (r1.mono e2)
  refine ⟨a, w, rfl, g, ?_⟩
  have ew : w.isSome = z.isSome := by
    rcases hw with ⟨d, e, rfl, rfl, _⟩ | ⟨rfl, rfl⟩ <;> rfl
  rw [ew]
  exact q _ _ _ _ _ p2 S2 (e1.trans e2) (.bl _)
theorem je_notin_dic {i : Expr} (hu : X.A.units + 1 < cLine) (h : JE X Γ M i (fun y M1 => JE X Γ M1 o (fun x M2 => ∃ z, DicHas M2 x y z ∧ Φ (.bl (!z.isSome)) M2) Ψ) Ψ) (hm : behindInMarks .NotIn o = false := by rfl) : JE X Γ M (.Compare i [.NotIn] [o] pos) Φ Ψ := fun B Hn H σ S A Q q => by
  refine run_pe (pe_cmp (pc_dnotin hu pe_run pe_run) hm) ?_
  refine h B Hn H σ S A _ fun u d M1 Hn1 H1 p1 S1 e1 r1 => ?_
  refine p1 B Hn1 H1 σ S1 (A.mono e1) _ fun v d2 M2 Hn2 H2 p2 S2 e2 r2 => ?_
  obtain ⟨z, hz, p2⟩ := p2
  obtain ⟨a, w, rfl, g, _, hw⟩ := hz.get S2.rep r2 (r1.mono e2)
  refine ⟨a, w, rfl, g, ?_⟩
  have ew : w.isSome = z.isSome := by
    rcases hw with ⟨d, e, rfl, rfl, _⟩ | ⟨rfl, rfl⟩ <;> rfl
  rw [ew]
  exact q _ _ _ _ _ p2 S2 (e1.trans e2) (.bl _)
/-- d.get(k), d.get(k, x) -/
theorem DicK.isD {K : PySem.W.Frag} {M : Mem} {Hn H : Hp} {x : D} {v : V} (R : Rep K M Hn H) (r : Is K Hn v x) (h : ∃ kvs, DicK M x kvs ∨ DicT M x kvs) : ∃ a, v = .ref a ∧ IsD H a := by
  obtain ⟨kvs, h | h⟩ := h
  · obtain ⟨a, ks, rfl, ha, _⟩ := h.at R r
    exact ⟨a, rfl, .inl ⟨ks, .inl ha⟩⟩
  · obtain ⟨a, ks, rfl, ha, _⟩ := h.at R r
    exact ⟨a, rfl, .inr ⟨ks, .inl ha⟩⟩
theorem je_get1 (hu : X.A.units + 1 < cLine) (h : JE X Γ M o (fun x M1 => (∃ kvs, DicK M1 x kvs ∨ DicT M1 x kvs) ∧ JE X Γ M1 e (fun y M2 => ∃ z, DicHas M2 x y z ∧ Φ (z.getD .non) M2) Ψ) Ψ)
    (m : M1 X o "get" apos e cpos := by exact ⟨rfl, rfl, rfl, rfl⟩) : JE X Γ M (.Call (.Attribute o "get" apos) [e] [] cpos) Φ Ψ := fun B Hn H σ S A Q q => by
  refine run_pe (pe_dget1 hu pe_run pe_run m) ?_
  refine h B Hn H σ S A _ fun v d M1 Hn1 H1 p1 S1 e1 r1 => ?_
  obtain ⟨a, rfl, hd⟩ := DicK.isD S1.rep r1 p1.1
  refine ⟨a, rfl, hd, ?_⟩
  refine p1.2 B Hn1 H1 σ S1 (A.mono e1) _ fun u d2 M2 Hn2 H2 p2 S2 e2 r2 => ?_
  obtain ⟨z, hz, p2⟩ := p2
  obtain ⟨a', w, ea, g, _, ⟨d, e, rfl, rfl, re⟩ | ⟨rfl, rfl⟩⟩ := hz.get S2.rep (r1.mono e2) r2
  · cases ea
    exact ⟨_, g, q _ _ _ _ _ p2 S2 (e1.trans e2) re⟩
  · cases ea
    exact ⟨_, g, q _ _ _ _ _ p2 S2 (e1.trans e2) .non⟩
theorem je_get2 {f : Expr} (hu : X.A.units + 1 < cLine) (h : JE X Γ M o (fun x M1 => (∃ kvs, DicK M1 x kvs ∨ DicT M1 x kvs) ∧ JE X Γ M1 e (fun y M2 => JE X Γ M2 f (fun dflt M3 => ∃ z, DicHas M3 x y z ∧ Φ (z.getD dflt) M3) Ψ) Ψ) Ψ)
    (m : M2 X o "get" apos e f cpos := by exact ⟨rfl, rfl, rfl, rfl⟩) : JE X Γ M (.Call (.Attribute o "get" apos) [e, f] [] cpos) Φ Ψ := fun B Hn H σ S A Q q => by
  refine run_pe (pe_dget2 hu pe_run pe_run pe_run m) ?_
  refine h B Hn H σ S A _ fun v d M1 Hn1 H1 p1 S1 e1 r1 => ?_
  obtain ⟨a, rfl, hd⟩ := DicK.isD S1.rep r1 p1.1
  refine ⟨a, rfl, hd, ?_⟩
  refine p1.2 B Hn1 H1 σ S1 (A.mono e1) _ fun u d2 M2 Hn2 H2 p2 S2 e2 r2 => ?_
  refine p2 B Hn2 H2 σ S2 (A.mono (e1.trans e2)) _ fun t d3 M3 Hn3 H3 p3 S3 e3 r3 => ?_
  obtain ⟨z, hz, p3⟩ := p3
  obtain ⟨a', w, ea, g, _, ⟨d, e, rfl, rfl, re⟩ | ⟨rfl, rfl⟩⟩ := hz.get S3.rep ((r1.mono e2).mono e3) (r2.mono e3)
  · cases ea
    exact ⟨_, g, q _ _ _ _ _ p3 S3 ((e1.trans e2).trans e3) re⟩
  · cases ea
    exact ⟨_, g, q _ _ _ _ _ p3 S3 ((e1.trans e2).trans e3) r3⟩

/-! ### methods of built-in types -/
def MetD (X : Cx) (id : String) (x : D) (ds : List D) (M : Mem) (Φ : D → Mem → Prop) : Prop :=
  ∀ B Γ Hn H σ v vs (Q : VK), SR X.K B M Γ Hn H σ → Is X.K Hn v x → IsA X.K Hn vs ds → (∀ z d M' Hn' H', Φ d M' → SR X.K B M' Γ Hn' H' σ → Same Hn Hn' → Is X.K Hn' z d → Q z H') → ∃ r : V → List V → Hp → VK → Prop, MtR X id r ∧ r v vs H Q
def mAny (X : Cx) (id : String) : V → List V → Hp → VK → Prop := fun v vs H Q => ∃ r : V → List V → Hp → VK → Prop, MtR X id r ∧ r v vs H Q
theorem mt_any {X : Cx} {id : String} : MtR X id (mAny X id) := by
  intro pins s σ H x xs v us Q I rx rxs h
  obtain ⟨r, hr, h⟩ := h
  exact hr pins s σ H x xs v us Q I rx rxs h
/-- the receiver is of the built-in type T -/
def isTy (M : Mem) (T : String) (x : D) : Prop := (T = "str" ∧ ∃ z, x = .str z) ∨ (T = "list" ∧ ((∃ xs, x = .lst xs) ∨ ∃ (k : Nat) (t : Addr) (xs : List D), x = .raw (.ref t) ∧ M[k]? = some (t, .lst xs)))
theorem tyV_of {K : PySem.W.Frag} {M : Mem} {Hn H : Hp} {x : D} {v : V} {T : String} (R : Rep K M Hn H) (r : Is K Hn v x) (h : isTy M T x) : tyV K T v H := by
  rcases h with ⟨rfl, z, rfl⟩ | ⟨rfl, ⟨xs, rfl⟩ | ⟨k, t, xs, rfl, hk⟩⟩
  · cases r
    rfl
  · cases r with
    | @lst a ws _ h1 _ => exact .inl ⟨rfl, _, SqL.of (R.sub _ _ h1)⟩
  · cases r
    obtain ⟨ws, h1, _⟩ := (R.cell _ (List.mem_of_getElem? hk)).2
    exact .inl ⟨rfl, _, SqL.of h1⟩
theorem je_m {T id : String} {name : Str} (pa : PlainAttrs T) (slot : Slot T name id) (hty : typeOf (.builtin id) = pure (.type "method_descriptor")) (h : JE X Γ M o (fun x M1 => isTy M1 T x ∧ JA X Γ M1 (e :: es) (fun ds M2 => MetD X id x ds M2 Φ) Ψ) Ψ)
    (hbase : attributeBase o name X.env (eval o X.env) = eval o X.env := by rfl)
    (hfew : ((backTo cpos (starEach (e :: es) X.env)).all (fun x => !x.1) && (backToKw cpos (keywordEach [] X.env)).all (fun x => x.1.isSome) && decide ((e :: es).length + ([] : List Keyword).length + (if ([] : List Keyword).isEmpty then 0 else 1) < 30)) = true := by rfl)
    (hline : (apos.endLine == cpos.line) = true := by rfl) (hs : starEach (e :: es) X.env = (false, eval e X.env) :: starEach es X.env := by rfl) (hplain : (backTo cpos (starEach es X.env)).any (·.1) = false := by rfl) :
    JE X Γ M (.Call (.Attribute o name apos) (e :: es) [] cpos) Φ Ψ := fun B Hn H σ S A Q q => by
  refine run_pe (pe_bm pa slot hty mt_any pe_run pa_run hbase hfew hline hs hplain) ?_
  refine h B Hn H σ S A _ fun v x M1 Hn1 H1 p1 S1 e1 r1 => ⟨tyV_of S1.rep r1 p1.1, ?_⟩
  refine p1.2 B Hn1 H1 σ S1 (A.mono e1) _ fun vs ds M2 Hn2 H2 p2 S2 e2 r2 => ?_
  exact p2 B Γ Hn2 H2 σ v vs Q S2 (r1.mono e2) r2 fun z d M' Hn' H' p3 S3 e3 r3 => q z d M' Hn' H' p3 S3 ((e1.trans e2).trans e3) r3
theorem je_m0 {T id : String} {name : Str} (pa : PlainAttrs T) (slot : Slot T name id) (hty : typeOf (.builtin id) = pure (.type "method_descriptor")) (h : JE X Γ M o (fun x M1 => isTy M1 T x ∧ MetD X id x [] M1 Φ) Ψ)
    (hbase : attributeBase o name X.env (eval o X.env) = eval o X.env := by rfl) (hline : (apos.endLine == cpos.line) = true := by rfl) :
    JE X Γ M (.Call (.Attribute o name apos) [] [] cpos) Φ Ψ := fun B Hn H σ S A Q q => by
  refine run_pe (pe_bm0 pa slot hty mt_any pe_run hbase hline) ?_
  refine h B Hn H σ S A _ fun v x M1 Hn1 H1 p1 S1 e1 r1 => ⟨tyV_of S1.rep r1 p1.1, ?_⟩
  exact p1.2 B Γ Hn1 H1 σ v [] Q S1 r1 .nil fun z d M' Hn' H' p3 S3 e3 r3 => q z d M' Hn' H' p3 S3 (e1.trans e3) r3
/-- a text's own look -/
theorem md_isascii {z : Str} (h : Φ (.bl (Txt.isascii z)) M) : MetD X "str.isascii" (.str z) [] M Φ := fun B Γ Hn H σ v vs Q S r rr q => by
  cases r; cases rr
  exact ⟨_, mt_isascii, z, rfl, rfl, trivial, q _ _ _ _ _ h S (Same.refl _) (.bl _)⟩
theorem md_isalnum {z : Str} (h : Φ (.bl (Txt.isalnum z)) M) : MetD X "str.isalnum" (.str z) [] M Φ := fun B Γ Hn H σ v vs Q S r rr q => by
  cases r; cases rr
  exact ⟨_, mt_isalnum, z, rfl, rfl, trivial, q _ _ _ _ _ h S (Same.refl _) (.bl _)⟩
theorem md_islower {z : Str} (h : Φ (.bl (Txt.islower z)) M) : MetD X "str.islower" (.str z) [] M Φ := fun B Γ Hn H σ v vs Q S r rr q => by
  cases r; cases rr
  exact ⟨_, mt_islower, z, rfl, rfl, trivial, q _ _ _ _ _ h S (Same.refl _) (.bl _)⟩
theorem md_isalpha {z : Str} (h : Φ (.bl (Txt.isalpha z)) M) : MetD X "str.isalpha" (.str z) [] M Φ := fun B Γ Hn H σ v vs Q S r rr q => by
  cases r; cases rr
  exact ⟨_, mt_isalpha, z, rfl, rfl, trivial, q _ _ _ _ _ h S (Same.refl _) (.bl _)⟩
/-- append, pop of a list that may change -/
theorem md_append (k : Nat) {t : Addr} {xs : List D} {d : D} (hk : M[k]? = some (t, .lst xs)) (hl : xs.length < 1000000) (h : Φ .non (M.set k (t, .lst (xs ++ [d])))) : MetD X "list.append" (.raw (.ref t)) [d] M Φ := fun B Γ Hn H σ v vs Q S r rr q => by
  cases r
  obtain ⟨u, rfl, ru⟩ := rr.one
  obtain ⟨ws, h1, r1⟩ := (S.rep.cell _ (List.mem_of_getElem? hk)).2
  refine ⟨_, mt_append, t, ws, u, rfl, rfl, h1, by rw [r1.length, sizeLine_eq]; omega, ?_⟩
  exact q _ _ _ _ _ h (S.put hk ⟨_, upd_same, r1.append (.cons ru .nil)⟩) (Same.refl _) .non
theorem md_popAt (k : Nat) {t : Addr} {xs : List D} {i : Int} {j : Nat} {d : D} (hk : M[k]? = some (t, .lst xs)) (hb : -(2 ^ 63) ≤ i ∧ i < 2 ^ 63) (hj : seqIndex? i xs.length = some j) (hd : xs[j]? = some d) (h : Φ d (M.set k (t, .lst (xs.eraseIdx j)))) :
    MetD X "list.pop" (.raw (.ref t)) [.int i] M Φ := fun B Γ Hn H σ v vs Q S r rr q => by
  cases r
  obtain ⟨u, rfl, ru⟩ := rr.one
  cases ru
  obtain ⟨ws, h1, r1⟩ := (S.rep.cell _ (List.mem_of_getElem? hk)).2
  obtain ⟨y, hy, ry⟩ := r1.get hd
  refine ⟨_, mt_popAt, t, ws, i, j, y, rfl, rfl, h1, hb.1, hb.2, by rw [r1.length]; exact hj, hy, ?_⟩
  exact q _ _ _ _ _ h (S.put hk ⟨_, upd_same, r1.erase j⟩) (Same.refl _) ry

/-! ### fields -/
theorem je_fld {f : Str} (h : JE X Γ M e (fun x M1 => ∃ C fs d, x = .ins C fs ∧ Cls X.K C ∧ NoAttr X.K C f ∧ fs.lookup f = some d ∧ Φ d M1) Ψ) (hb : attributeBase e f X.env (eval e X.env) = eval e X.env := by rfl) : JE X Γ M (.Attribute e f pos) Φ Ψ := fun B Hn H σ S A Q q => by
  refine run_pe (pe_fld pe_run hb) ?_
  refine h B Hn H σ S A _ fun v x M1 Hn1 H1 p1 S1 e1 r1 => ?_
  obtain ⟨C, fs, d, rfl, c, n, hl, p1⟩ := p1
  cases r1 with
  | @ins a _ dx gs _ h1 rf =>
    obtain ⟨w, hw, rw'⟩ := rf.get hl
    exact ⟨a, C, dx, gs, w, rfl, S1.rep.sub _ _ h1, c, n, hw, q _ _ _ _ _ p1 S1 e1 rw'⟩
/-- a field of an instance that may change -/
theorem je_fldC (k : Nat) {f : Str} (h : JE X Γ M e (fun x M1 => ∃ t C fs d, x = .raw (.ref t) ∧ M1[k]? = some (t, .ins C fs) ∧ Cls X.K C ∧ NoAttr X.K C f ∧ fs.lookup f = some d ∧ Φ d M1) Ψ) (hb : attributeBase e f X.env (eval e X.env) = eval e X.env := by rfl) : JE X Γ M (.Attribute e f pos) Φ Ψ := fun B Hn H σ S A Q q => by
  refine run_pe (pe_fld pe_run hb) ?_
  refine h B Hn H σ S A _ fun v x M1 Hn1 H1 p1 S1 e1 r1 => ?_
  obtain ⟨t, C, fs, d, rfl, hk, c, n, hl, p1⟩ := p1
  cases r1
  obtain ⟨dx, gs, h1, rf⟩ := (S1.rep.cell _ (List.mem_of_getElem? hk)).2
  obtain ⟨w, hw, rw'⟩ := rf.get hl
  exact ⟨t, C, dx, gs, w, rfl, h1, c, n, hw, q _ _ _ _ _ p1 S1 e1 rw'⟩
end
end DL
end

section
set_option Elab.async false
set_option linter.all false
set_option maxRecDepth 100000
set_option maxHeartbeats 4000000
/-! Defs over data: their promises, their calls; statements. -/
namespace DL
open PySem PySem.Spec PyProof.Rows L2

/-- a promise over data: arguments, cells, what is wanted of the value and the cells, of what is raised -/
abbrev Spec := List D → Mem → (D → Mem → Prop) → XP → Prop
def spD (K : PySem.W.Frag) (spec : Spec) : Sp := fun vs H Q E => ∃ (ds : List D) (M : Mem) (Hn : Hp) (Φ : D → Mem → Prop) (Ψ : XP), IsA K Hn vs ds ∧ Rep K M Hn H ∧ spec ds M Φ Ψ ∧
  (∀ v d M' Hn' H', Φ d M' → Rep K M' Hn' H' → Step (M.map (·.1)) Hn H Hn' H' → M'.map (·.1) = M.map (·.1) → Is K Hn' v d → Q v H') ∧
  (∀ x M' Hn' H' cls dd, Ψ x M' → Rep K M' Hn' H' → Step (M.map (·.1)) Hn H Hn' H' → M'.map (·.1) = M.map (·.1) → ExIs K Hn' cls dd x → E cls dd H')

section
variable {K : PySem.W.Frag} {B : Bas} {M M' M0 M0' : Mem} {Γ : Sl} {Hn H Hn' H' : Hp} {σ : L2.St}
/-- behind a call that was handed the cells M0 -/
theorem SR.call (S : SR K B M Γ Hn H σ) (h0 : ∀ p ∈ M0, p ∈ M) (R : Rep K M0' Hn' H') (st : Step (M0.map (·.1)) Hn H Hn' H') (e0 : M0'.map (·.1) = M0.map (·.1)) (e : M'.map (·.1) = M.map (·.1))
    (hm : ∀ p ∈ M', p ∈ M0' ∨ (p ∈ M ∧ p.1 ∉ M0.map (·.1))) : SR K B M' Γ Hn' H' σ := by
  refine ⟨⟨R.sub, fun p hp => ?_, by rw [e]; exact S.rep.nd⟩, ⟨S.step.nn.trans st.nn, fun a o ha ho => ?_, fun a ha => st.there a (S.step.there a ha), fun a hn n => ?_, fun a xs ea => ?_⟩, fun p hp => ?_, by rw [e]; exact S.pre, fun i d hd => ?_⟩
  · rcases hm p hp with h | ⟨h, hn⟩
    · exact R.cell p h
    · obtain ⟨c1, c2⟩ := S.rep.cell p h
      obtain ⟨o, ho⟩ := c2.there
      have hk := st.keep p.1 o hn ho
      refine ⟨?_, c2.mono st.nn (hk.trans ho.symm)⟩
      cases q : Hn' p.1 with
      | none => rfl
      | some u =>
        rcases st.new p.1 c1 (by rw [q]; simp) with z | ⟨xs, z⟩
        · rw [ho] at z
          cases z
        · exact absurd z (c2.notTup xs)
  · have h1 := S.step.keep a o ha ho
    refine st.keep a o (fun hm0 => ?_) h1
    obtain ⟨p, hp, rfl⟩ := List.mem_map.mp hm0
    rcases S.loc p (h0 p hp) with q | q
    · exact ha q
    · rw [q] at ho
      cases ho
  · cases q : Hn a with
    | none => exact S.step.fre (st.new a q n)
    | some o => exact S.step.new a hn (by rw [q]; simp)
  · rcases st.nt a xs ea with h | h
    · exact .inl (S.step.back h)
    · exact S.step.nt a xs h
  · have : p.1 ∈ M.map (·.1) := by rw [← e]; exact List.mem_map_of_mem hp
    obtain ⟨q, hq, eq⟩ := List.mem_map.mp this
    rw [← eq]
    exact S.loc q hq
  · obtain ⟨v, h1, h2⟩ := S.sl i d hd
    exact ⟨v, h1, h2.mono st.nn⟩
theorem Rep.part (R : Rep K M Hn H) (h0 : ∀ p ∈ M0, p ∈ M) (hn : (M0.map (·.1)).Nodup) : Rep K M0 Hn H := ⟨R.sub, fun p hp => R.cell p (h0 p hp), hn⟩
theorem map_set {M : Mem} {k : Nat} {a : Addr} {c c' : Cell} (hk : M[k]? = some (a, c)) : (M.set k (a, c')).map (·.1) = M.map (·.1) := by
  have hlt := (List.getElem?_eq_some_iff.mp hk).1
  rw [List.map_set]
  refine List.ext_getElem? fun j => ?_
  by_cases hj : k = j
  · subst hj
    rw [List.getElem?_set_self (by simpa using hlt), List.getElem?_map, hk]
    rfl
  · rw [List.getElem?_set_ne hj]
theorem mem_set_of {M : Mem} {k : Nat} {a : Addr} {c c' : Cell} (nd : (M.map (·.1)).Nodup) (hk : M[k]? = some (a, c)) : ∀ p ∈ M.set k (a, c'), p ∈ [(a, c')] ∨ (p ∈ M ∧ p.1 ∉ [(a, c)].map (·.1)) := fun p hp => by
  have hlt := (List.getElem?_eq_some_iff.mp hk).1
  obtain ⟨j, hj⟩ := List.getElem?_of_mem hp
  by_cases hkj : k = j
  · subst hkj
    rw [List.getElem?_set_self hlt] at hj
    cases hj
    exact .inl (List.mem_singleton.mpr rfl)
  · rw [List.getElem?_set_ne hkj] at hj
    refine .inr ⟨List.mem_of_getElem? hj, fun z => ?_⟩
    have e : p.1 = a := by simpa using z
    have h1 : (M.map (·.1))[j]? = some p.1 := by rw [List.getElem?_map, hj]; rfl
    have h2 : (M.map (·.1))[k]? = some a := by rw [List.getElem?_map, hk]; rfl
    rw [e] at h1
    exact hkj (nd_ix nd h2 h1)
/-- the cells at the places ks, replaced -/
def setMs : Mem → List Nat → Mem → Mem
  | M, k :: ks, p :: ps => setMs (M.set k p) ks ps
  | M, _, _ => M
theorem hk_cons {M : Mem} {k : Nat} {ks : List Nat} {q : Addr × Cell} {M0 : Mem} (h : (k :: ks).map (fun j => M[j]?) = (q :: M0).map some) : M[k]? = some q ∧ ks.map (fun j => M[j]?) = M0.map some := by
  rw [List.map_cons, List.map_cons] at h
  exact List.cons.inj h
theorem hk_set {M : Mem} {k : Nat} {ks : List Nat} {p : Addr × Cell} {M0 : Mem} (h : ks.map (fun j => M[j]?) = M0.map some) (hn : k ∉ ks) : ks.map (fun j => (M.set k p)[j]?) = M0.map some := by
  rw [← h]
  refine List.map_congr_left fun j hj => ?_
  exact List.getElem?_set_ne fun e => hn (by rw [e]; exact hj)
theorem map_setMs : ∀ {ks : List Nat} {M M0 M' : Mem}, ks.map (fun j => M[j]?) = M0.map some → ks.Nodup → M'.map (·.1) = M0.map (·.1) → (setMs M ks M').map (·.1) = M.map (·.1)
  | [], M, M0, M', _, _, _ => by cases M' <;> rfl
  | k :: ks, M, [], M', h, _, _ => by cases h
  | k :: ks, M, q :: M0, [], h, _, _ => rfl
  | k :: ks, M, (a, c) :: M0, (a', c') :: M', h, hn, e => by
    obtain ⟨h1, h2⟩ := hk_cons h
    obtain ⟨n1, n2⟩ := List.nodup_cons.mp hn
    obtain ⟨e1, e2⟩ := List.cons.inj (show a' :: M'.map (·.1) = a :: M0.map (·.1) from e)
    subst e1
    exact (map_setMs (hk_set h2 n1) n2 e2).trans (map_set h1)
theorem mem_setMs : ∀ {ks : List Nat} {M M0 M' : Mem}, (M.map (·.1)).Nodup → ks.map (fun j => M[j]?) = M0.map some → ks.Nodup → M'.map (·.1) = M0.map (·.1) → ∀ p ∈ setMs M ks M', p ∈ M' ∨ (p ∈ M ∧ p.1 ∉ M0.map (·.1))
  | [], M, M0, M', _, h, _, _, p, hp => by
    have e : M0 = [] := by
      cases M0 with
      | nil => rfl
      | cons _ _ => cases h
    have hp' : p ∈ M := by cases M' <;> exact hp
    exact .inr ⟨hp', by rw [e]; simp⟩
  | k :: ks, M, [], M', _, h, _, _, p, hp => by cases h
  | k :: ks, M, q :: M0, [], _, h, _, e, p, hp => by cases e
  | k :: ks, M, (a, c) :: M0, (a', c') :: M', nd, h, hn, e, p, hp => by
    obtain ⟨h1, h2⟩ := hk_cons h
    obtain ⟨n1, n2⟩ := List.nodup_cons.mp hn
    obtain ⟨e1, e2⟩ := List.cons.inj (show a' :: M'.map (·.1) = a :: M0.map (·.1) from e)
    subst e1
    rcases mem_setMs (by rw [map_set h1]; exact nd) (hk_set (p := (a', c')) h2 n1) n2 e2 p hp with z | ⟨z1, z2⟩
    · exact .inl (List.mem_cons_of_mem _ z)
    · rcases mem_set_of nd h1 p z1 with y | ⟨y1, y2⟩
      · rw [List.mem_singleton.mp y]
        exact .inl List.mem_cons_self
      · refine .inr ⟨y1, fun w => ?_⟩
        rcases List.mem_cons.mp w with w | w
        · exact y2 (by rw [w]; simp)
        · exact z2 w
theorem mem_hk : ∀ {ks : List Nat} {M M0 : Mem}, ks.map (fun j => M[j]?) = M0.map some → ∀ p ∈ M0, p ∈ M
  | [], M, M0, h, p, hp => by
    cases M0 with
    | nil => cases hp
    | cons _ _ => cases h
  | k :: ks, M, [], h, p, hp => by cases hp
  | k :: ks, M, q :: M0, h, p, hp => by
    obtain ⟨h1, h2⟩ := hk_cons h
    rcases List.mem_cons.mp hp with z | z
    · rw [z]
      exact List.mem_of_getElem? h1
    · exact mem_hk h2 p z
theorem nd_hk : ∀ {ks : List Nat} {M M0 : Mem}, (M.map (·.1)).Nodup → ks.map (fun j => M[j]?) = M0.map some → ks.Nodup → (M0.map (·.1)).Nodup
  | [], M, M0, _, h, _ => by
    cases M0 with
    | nil => simp
    | cons _ _ => cases h
  | k :: ks, M, [], _, h, _ => by simp
  | k :: ks, M, q :: M0, nd, h, hn => by
    obtain ⟨h1, h2⟩ := hk_cons h
    obtain ⟨n1, n2⟩ := List.nodup_cons.mp hn
    rw [List.map_cons, List.nodup_cons]
    refine ⟨fun z => ?_, nd_hk nd h2 n2⟩
    obtain ⟨r, hr, er⟩ := List.mem_map.mp z
    obtain ⟨j, hj⟩ := List.getElem?_of_mem hr
    have hj2 : (ks.map (fun j => M[j]?))[j]? = some (some r) := by rw [h2, List.getElem?_map, hj]; rfl
    rw [List.getElem?_map] at hj2
    cases hkj : ks[j]? with
    | none => rw [hkj] at hj2; cases hj2
    | some i =>
      rw [hkj] at hj2
      have hi : M[i]? = some r := Option.some.inj hj2
      have g1 : (M.map (·.1))[k]? = some q.1 := by rw [List.getElem?_map, h1]; rfl
      have g2 : (M.map (·.1))[i]? = some q.1 := by rw [List.getElem?_map, hi, ← er]; rfl
      have : k = i := nd_ix nd g1 g2
      exact n1 (by rw [this]; exact List.mem_of_getElem? hkj)
end

/-! ### what a call uses -/
/-- a def, by its name: its promise, its defaults' data -/
structure GFn (P : Program) (w : World) (K : PySem.W.Frag) (mg : Str → Option Value) (base : Heap) (k : Nat) (x : Str) (dds : List D) (spec : Spec) : Prop where
  ex : ∃ (f : Addr) (fd : FuncData) (ps : List Str) (us : List Value) (dvs : List V), FnOk P w K mg base (L2.CX P w) k f fd ps (spD K spec) ∧ mg x = some (.ref f) ∧ PySem.W.keepIn K (.ref f) = true ∧ Binds K fd ps us ∧ Vals dvs us ∧ ∀ Hn, IsA K Hn dvs dds
/-- which cells a call is handed: none, the one at k -/
inductive Use (spec : Spec) (ds : List D) (M : Mem) (Φ : D → Mem → Prop) (Ψ : XP) : Prop
  | none (h : spec ds [] (fun d _ => Φ d M) (fun x _ => Ψ x M))
  | one (k : Nat) (a : Addr) (c : Cell) (hk : M[k]? = some (a, c)) (h : spec ds [(a, c)] (fun d M' => ∀ c', M' = [(a, c')] → Φ d (M.set k (a, c'))) (fun x M' => ∀ c', M' = [(a, c')] → Ψ x (M.set k (a, c'))))
  | many (ks : List Nat) (M0 : Mem) (hk : ks.map (fun j => M[j]?) = M0.map some) (hn : ks.Nodup) (h : spec ds M0 (fun d M' => M'.map (·.1) = M0.map (·.1) → Φ d (setMs M ks M')) (fun x M' => M'.map (·.1) = M0.map (·.1) → Ψ x (setMs M ks M')))
section
variable {X : Cx} {Γ : Sl} {M : Mem} {Φ : D → Mem → Prop} {Ψ : XP} {a b c e o : Expr} {es : List Expr} {pos p pos2 apos cpos : Pos} {spec : Spec} {k : Nat} {dds : List D}
theorem one_of {M' : Mem} {a : Addr} {c : Cell} (e : M'.map (·.1) = [(a, c)].map (·.1)) : ∃ c', M' = [(a, c')] := by
  cases M' with
  | nil => cases e
  | cons q r =>
    cases r with
    | nil =>
      obtain ⟨a', c'⟩ := q
      have : a' = a := by simpa using e
      subst this
      exact ⟨c', rfl⟩
    | cons q2 r => simp at e
/-- the promise, as the layer wants it, from what is used -/
theorem Use.sp {B : Bas} {Hn H : Hp} {σ : L2.St} {ds : List D} {vs : List V} {Q : VK} (S : SR X.K B M Γ Hn H σ) (A : Air X B Γ Hn σ Ψ) (r : IsA X.K Hn vs ds) (u : Use spec ds M Φ Ψ)
    (q : ∀ z d M' Hn' H', Φ d M' → SR X.K B M' Γ Hn' H' σ → Same Hn Hn' → Is X.K Hn' z d → Q z H') : spD X.K spec vs H Q (fun cls d H' => AirOk X cls d σ H') := by
  cases u with
  | none h =>
    refine ⟨ds, [], Hn, _, _, r, S.rep.part (fun p hp => by simp at hp) (by simp), h, fun v d M' Hn' H' p R st e rv => ?_, fun x M' Hn' H' cls dd p R st e ri => ?_⟩
    · exact q v d M Hn' H' p (S.call (M0 := []) (fun p hp => by simp at hp) R st e rfl fun p hp => .inr ⟨hp, by simp⟩) st.nn rv
    · exact A x M Hn' H' cls dd p (S.call (M0 := []) (fun p hp => by simp at hp) R st e rfl fun p hp => .inr ⟨hp, by simp⟩) st.nn ri
  | one k a c hk h =>
    have hm : ∀ p ∈ [(a, c)], p ∈ M := fun p hp => by
      rw [List.mem_singleton.mp hp]
      exact List.mem_of_getElem? hk
    refine ⟨ds, [(a, c)], Hn, _, _, r, S.rep.part hm (by simp), h, fun v d M' Hn' H' p R st e rv => ?_, fun x M' Hn' H' cls dd p R st e ri => ?_⟩
    · obtain ⟨c', rfl⟩ := one_of e
      exact q v d _ Hn' H' (p c' rfl) (S.call hm R st e (map_set hk) (mem_set_of S.rep.nd hk)) st.nn rv
    · obtain ⟨c', rfl⟩ := one_of e
      exact A x _ Hn' H' cls dd (p c' rfl) (S.call hm R st e (map_set hk) (mem_set_of S.rep.nd hk)) st.nn ri
  | many ks M0 hk hn h =>
    refine ⟨ds, M0, Hn, _, _, r, S.rep.part (mem_hk hk) (nd_hk S.rep.nd hk hn), h, fun v d M' Hn' H' p R st e rv => ?_, fun x M' Hn' H' cls dd p R st e ri => ?_⟩
    · exact q v d _ Hn' H' (p e) (S.call (mem_hk hk) R st e (map_setMs hk hn e) (mem_setMs S.rep.nd hk hn e)) st.nn rv
    · exact A x _ Hn' H' cls dd (p e) (S.call (mem_hk hk) R st e (map_setMs hk hn e) (mem_setMs S.rep.nd hk hn e)) st.nn ri
theorem pass_air {σ : L2.St} : PassesAt (L2.CX X.prog X.w) X σ (fun cls d H' => AirOk X cls d σ H') := passAt (W := fun cls d σ H => AirOk X cls d σ H) takes_air σ
theorem je_call {x : Str} (G : GFn X.prog X.w X.K X.mg X.base k x dds spec) (hr : Room k X.A) (h : JA X Γ M (e :: es) (fun ds M1 => Use spec (ds ++ dds) M1 Φ Ψ) Ψ) (hg : Gl X x := by rfl) (hdb : (x == ("__debug__" : Str)) = false := by decide)
    (he : starEach (e :: es) X.env = (false, eval e X.env) :: starEach es X.env := by rfl) (hpl : (backTo pos (starEach es X.env)).any (·.1) = false := by rfl) : JE X Γ M (.Call (.Name x p) (e :: es) [] pos) Φ Ψ := fun B Hn H σ S A Q q => by
  obtain ⟨f, fd, ps, us, dvs, F, hm, hk, hb, hv, hd⟩ := G.ex
  refine run_pe (pe_callSD (E := fun σ cls d H' => AirOk X cls d σ H') F hr hg hm hk hb hv (fun σ => pass_air) pa_run hdb he hpl) ?_
  refine h B Hn H σ S A _ fun vs ds M1 Hn1 H1 p1 S1 e1 r1 => ?_
  exact p1.sp S1 (A.mono e1) (r1.append (hd _)) fun z d M' Hn' H' p2 S2 e2 r2 => q z d M' Hn' H' p2 S2 (e1.trans e2) r2

/-! ### methods -/
structure GMe (P : Program) (w : World) (K : PySem.W.Frag) (mg : Str → Option Value) (base : Heap) (k : Nat) (C : Addr) (m : Str) (dds : List D) (spec : Spec) : Prop where
  cl : Cls K C
  ex : ∃ (f : Addr) (fd : FuncData) (ps : List Str) (us : List Value) (dvs : List V), FnOk P w K mg base (L2.CX P w) k f fd ps (spD K spec) ∧ Meth K C m f ∧ Binds K fd ps us ∧ Vals dvs us ∧ ∀ Hn, IsA K Hn dvs dds
def tMethSD (C : Addr) (m : Str) (sp : Sp) (dvs : List V) (E : L2.St → XK) (ta : TE) (t : TA) : TE := fun σ H Q => ta σ H fun x H1 => ∃ a dx fs, x = .ref a ∧ H1 a = some (.ins C dx fs) ∧ fs.lookup m = none ∧ t σ H1 fun vs H2 => sp (x :: (vs ++ dvs)) H2 Q (E σ)
theorem pe_methSD {C f : Addr} {fd : FuncData} {ps : List Str} {sp : Sp} {us : List Value} {dvs : List V} {E : L2.St → XK} {m : Str} {ta : TE} {t : TA} {pl : Sem Bool} (ho : PE X o ta) (cl : Cls X.K C) (hme : Meth X.K C m f) (F : FnOk X.prog X.w X.K X.mg X.base (L2.CX X.prog X.w) k f fd ps sp)
    (hr : Room k X.A) (hbi : Binds X.K fd ps us) (hdv : Vals dvs us) (hpa : ∀ σ, PassesAt (L2.CX X.prog X.w) X σ (E σ)) (har : PA X (e :: es) t)
    (hst : starEach (e :: es) X.env = (false, eval e X.env) :: starEach es X.env := by rfl) (hpl : (backTo pos (starEach es X.env)).any (·.1) = false := by rfl)
    (ht : eval (.Call (.Attribute o m apos) (e :: es) [] pos) X.env = (do
      let rcv ← eval o X.env
      standAt apos.atName
      let (g, fst) ← holding [rcv] (getMethod rcv m pl)
      callWith pos g fst (backTo pos (starEach (e :: es) X.env)) (backToKw pos (keywordEach [] X.env))) := by rfl) :
    PE X (.Call (.Attribute o m apos) (e :: es) [] pos) (tMethSD C m sp dvs E ta t) := by
  refine ⟨fun pins s σ H Q I h => ?_⟩
  refine PySem.W.methodCall_KW (pl := pl) (thn (ho.run pins s σ H _ I h) fun u s1 hu => ?_) ht
  obtain ⟨x, H1, I1, rx, a, dx, fs, ex, ea, hl, q1⟩ := hu
  subst ex
  obtain rfl : u = Value.ref a := rx
  refine getmeth_ok I1 ea cl hme hl ?_
  refine PySem.W.callWith_K (first := [.ref a]) (h₀ := X.base) I.ok.mod.kin hme.kp (thn (har.run pos pins s1 σ H1 _ I1 q1) fun ws s2 hw => ?_) hst hpl
  obtain ⟨vs, H2, I2, r, q2⟩ := hw
  exact ⟨I2.kIn, run_fnSD (us := .ref a :: ws) (vs := .ref a :: vs) F hr hbi hdv (hpa σ) I2 (.cons rfl r) q2⟩
theorem pe_meth0SD {C f : Addr} {fd : FuncData} {ps : List Str} {sp : Sp} {us : List Value} {dvs : List V} {E : L2.St → XK} {m : Str} {ta : TE} {pl : Sem Bool} (ho : PE X o ta) (cl : Cls X.K C) (hme : Meth X.K C m f) (F : FnOk X.prog X.w X.K X.mg X.base (L2.CX X.prog X.w) k f fd ps sp)
    (hr : Room k X.A) (hbi : Binds X.K fd ps us) (hdv : Vals dvs us) (hpa : ∀ σ, PassesAt (L2.CX X.prog X.w) X σ (E σ))
    (ht : eval (.Call (.Attribute o m apos) [] [] pos) X.env = (do
      let rcv ← eval o X.env
      standAt apos.atName
      let (g, fst) ← holding [rcv] (getMethod rcv m pl)
      callWith pos g fst (backTo pos (starEach [] X.env)) (backToKw pos (keywordEach [] X.env))) := by rfl) :
    PE X (.Call (.Attribute o m apos) [] [] pos) (tMethSD C m sp dvs E ta tNil) := by
  refine ⟨fun pins s σ H Q I h => ?_⟩
  refine PySem.W.methodCall_KW (pl := pl) (thn (ho.run pins s σ H _ I h) fun u s1 hu => ?_) ht
  obtain ⟨x, H1, I1, rx, a, dx, fs, ex, ea, hl, q1⟩ := hu
  subst ex
  obtain rfl : u = Value.ref a := rx
  refine getmeth_ok I1 ea cl hme hl ?_
  exact PySem.W.callWith_K0 (first := [.ref a]) I1.kIn hme.kp (run_fnSD (us := [.ref a]) (vs := [.ref a]) F hr hbi hdv (hpa σ) I1 (.cons rfl .nil) q1)
/-- the receiver is an instance of the class at C: data, or a cell -/
def InsAt (M : Mem) (C : Addr) (m : Str) (x : D) : Prop := (∃ fs, x = .ins C fs ∧ fs.lookup m = none) ∨ ∃ (k : Nat) (t : Addr) (fs : List (Str × D)), x = .raw (.ref t) ∧ M[k]? = some (t, .ins C fs) ∧ fs.lookup m = none
theorem InsAt.at {K : PySem.W.Frag} {Hn H : Hp} {C : Addr} {m : Str} {x : D} {v : V} (R : Rep K M Hn H) (r : Is K Hn v x) (h : InsAt M C m x) : ∃ a dx fs, v = .ref a ∧ H a = some (.ins C dx fs) ∧ fs.lookup m = none := by
  rcases h with ⟨fs, rfl, hl⟩ | ⟨k, t, fs, rfl, hk, hl⟩
  · cases r with
    | @ins a _ dx gs _ h1 rf => exact ⟨a, dx, gs, rfl, R.sub _ _ h1, rf.none hl⟩
  · cases r
    obtain ⟨dx, gs, h1, rf⟩ := (R.cell _ (List.mem_of_getElem? hk)).2
    exact ⟨t, dx, gs, rfl, h1, rf.none hl⟩
theorem je_meth {C : Addr} {m : Str} {pl : Sem Bool} (G : GMe X.prog X.w X.K X.mg X.base k C m dds spec) (hr : Room k X.A) (h : JE X Γ M o (fun x M1 => InsAt M1 C m x ∧ JA X Γ M1 (e :: es) (fun ds M2 => Use spec (x :: (ds ++ dds)) M2 Φ Ψ) Ψ) Ψ)
    (hst : starEach (e :: es) X.env = (false, eval e X.env) :: starEach es X.env := by rfl) (hpl : (backTo pos (starEach es X.env)).any (·.1) = false := by rfl)
    (ht : eval (.Call (.Attribute o m apos) (e :: es) [] pos) X.env = (do
      let rcv ← eval o X.env
      standAt apos.atName
      let (g, fst) ← holding [rcv] (getMethod rcv m pl)
      callWith pos g fst (backTo pos (starEach (e :: es) X.env)) (backToKw pos (keywordEach [] X.env))) := by rfl) : JE X Γ M (.Call (.Attribute o m apos) (e :: es) [] pos) Φ Ψ := fun B Hn H σ S A Q q => by
  obtain ⟨f, fd, ps, us, dvs, F, hm, hb, hv, hd⟩ := G.ex
  refine run_pe (pe_methSD (E := fun σ cls d H' => AirOk X cls d σ H') pe_run G.cl hm F hr hb hv (fun σ => pass_air) pa_run hst hpl ht) ?_
  refine h B Hn H σ S A _ fun v x M1 Hn1 H1 p1 S1 e1 r1 => ?_
  obtain ⟨a, dx, fs, rfl, ha, hl⟩ := p1.1.at S1.rep r1
  refine ⟨a, dx, fs, rfl, ha, hl, ?_⟩
  refine p1.2 B Hn1 H1 σ S1 (A.mono e1) _ fun vs ds M2 Hn2 H2 p2 S2 e2 r2 => ?_
  exact p2.sp S2 (A.mono (e1.trans e2)) (.cons (r1.mono e2) (r2.append (hd _))) fun z d M' Hn' H' p3 S3 e3 r3 => q z d M' Hn' H' p3 S3 ((e1.trans e2).trans e3) r3
theorem je_meth0 {C : Addr} {m : Str} {pl : Sem Bool} (G : GMe X.prog X.w X.K X.mg X.base k C m dds spec) (hr : Room k X.A) (h : JE X Γ M o (fun x M1 => InsAt M1 C m x ∧ Use spec (x :: dds) M1 Φ Ψ) Ψ)
    (ht : eval (.Call (.Attribute o m apos) [] [] pos) X.env = (do
      let rcv ← eval o X.env
      standAt apos.atName
      let (g, fst) ← holding [rcv] (getMethod rcv m pl)
      callWith pos g fst (backTo pos (starEach [] X.env)) (backToKw pos (keywordEach [] X.env))) := by rfl) : JE X Γ M (.Call (.Attribute o m apos) [] [] pos) Φ Ψ := fun B Hn H σ S A Q q => by
  obtain ⟨f, fd, ps, us, dvs, F, hm, hb, hv, hd⟩ := G.ex
  refine run_pe (pe_meth0SD (E := fun σ cls d H' => AirOk X cls d σ H') pe_run G.cl hm F hr hb hv (fun σ => pass_air) ht) ?_
  refine h B Hn H σ S A _ fun v x M1 Hn1 H1 p1 S1 e1 r1 => ?_
  obtain ⟨a, dx, fs, rfl, ha, hl⟩ := p1.1.at S1.rep r1
  refine ⟨a, dx, fs, rfl, ha, hl, ?_⟩
  exact p1.2.sp S1 (A.mono e1) (.cons r1 (hd _)) fun z d M' Hn' H' p3 S3 e3 r3 => q z d M' Hn' H' p3 S3 (e1.trans e3) r3

/-! ### instances made -/
structure GMk (P : Program) (w : World) (K : PySem.W.Frag) (mg : Str → Option Value) (base : Heap) (k : Nat) (x : Str) (C : Addr) (dds : List D) (spec : Spec) : Prop where
  hm : mg x = some (.ref C)
  ex : ∃ (f : Addr) (fd : FuncData) (ps : List Str) (us : List Value) (dvs : List V), FnOk P w K mg base (L2.CX P w) k f fd ps (spD K spec) ∧ Mk K C f ∧ Binds K fd ps us ∧ Vals dvs us ∧ ∀ Hn, IsA K Hn dvs dds
def tMakeSD (C : Addr) (sp : Sp) (dvs : List V) (E : L2.St → XK) (t : TA) : TE := fun σ H Q => t σ H fun vs H1 => ∀ x dx, H1 x = none → H1 dx = none → dx ≠ x →
  sp (.ref x :: (vs ++ dvs)) (upd (upd H1 dx (.own x)) x (.ins C dx [])) (fun v H2 => v = .non ∧ Q (.ref x) H2) (E σ)
theorem pe_makeSD {C f : Addr} {fd : FuncData} {ps : List Str} {sp : Sp} {us : List Value} {dvs : List V} {E : L2.St → XK} {x : Str} {t : TA} (MK : Mk X.K C f) (F : FnOk X.prog X.w X.K X.mg X.base (L2.CX X.prog X.w) k f fd ps sp) (hr : Room (k + 1) X.A) (hg : Gl X x) (hmg : X.mg x = some (.ref C))
    (hbi : Binds X.K fd ps us) (hdv : Vals dvs us) (hpa : ∀ σ, PassesAt (L2.CX X.prog X.w) X σ (E σ)) (har : PA X (e :: es) t) (hdb : (x == ("__debug__" : Str)) = false := by decide)
    (hst : starEach (e :: es) X.env = (false, eval e X.env) :: starEach es X.env := by rfl) (hpl : (backTo pos (starEach es X.env)).any (·.1) = false := by rfl) :
    PE X (.Call (.Name x p) (e :: es) [] pos) (tMakeSD C sp dvs E t) := by
  refine ⟨fun pins s σ H Q I h => ?_⟩
  refine wpAny_Call_Name_kw (ld_glob I hg hmg ?_ hdb)
  refine PySem.W.callWith_K (h₀ := X.base) I.ok.mod.kin MK.kp (thn (har.run pos pins s σ H _ I h) fun ws s1 hw => ?_) hst hpl
  obtain ⟨vs, H1, I1, r, q1⟩ := hw
  refine ⟨I1.kIn, ?_⟩
  have q2 := q1 (s1.heap.objs.size + 1) s1.heap.objs.size (I1.hok.fresh (Nat.le_succ _)) (I1.hok.fresh (Nat.le_refl _)) (Nat.ne_of_lt (Nat.lt_succ_self _))
  have J := Inv.made (C := C) I1
  have rr : Vals (V.ref (s1.heap.objs.size + 1) :: (vs ++ dvs)) (Value.ref (s1.heap.objs.size + 1) :: (ws ++ us)) := .cons rfl (r.append hdv)
  have hlen : (Value.ref (s1.heap.objs.size + 1) :: ws ++ us).length = ps.length := (F.len _ _ _ _ q2 ▸ rr.length).symm
  show wpAny _ _ (call (.ref C) ws) _ _ _
  refine wpAny_call (make_map (f := f) I1.kIn MK.makes MK.init (beq_iff_eq.mp MK.fn) (codeAny_mono (F.run _ X.stack _ _ ⟨Value.ref (s1.heap.objs.size + 1) :: ws, []⟩ (Value.ref (s1.heap.objs.size + 1) :: (ws ++ us)) _ _ (E σ) (hr.make C ws []) (J.env0.make C ws [])
    (hbi _ (Value.ref (s1.heap.objs.size + 1) :: ws) J.kIn hlen) rr q2) fun res s' hres => ?_))
  cases res with
  | error er => exact hpa σ pins _ _ er s' J hres
  | ok fl =>
    cases fl with
    | next => exact False.elim hres
    | brk => exact False.elim hres
    | cont => exact False.elim hres
    | ret u =>
      obtain ⟨v, H', J', rv, ev, q3⟩ := J.after hres
      subst ev
      exact ⟨rv, V.ref (s1.heap.objs.size + 1), H', J', rfl, q3⟩
/-- C(e, ..): the instance as data from then on -/
theorem je_make {C : Addr} {x : Str} (G : GMk X.prog X.w X.K X.mg X.base k x C dds spec) (hr : Room (k + 1) X.A)
    (h : JA X Γ M (e :: es) (fun ds M1 => ∀ t, spec (.raw (.ref t) :: (ds ++ dds)) [(t, .ins C [])] (fun d M' => d = .non ∧ ∃ fs, M' = [(t, .ins C fs)] ∧ Φ (.ins C fs) M1) (fun x M' => Ψ x M1)) Ψ) (hg : Gl X x := by rfl) (hdb : (x == ("__debug__" : Str)) = false := by decide)
    (hst : starEach (e :: es) X.env = (false, eval e X.env) :: starEach es X.env := by rfl) (hpl : (backTo pos (starEach es X.env)).any (·.1) = false := by rfl) : JE X Γ M (.Call (.Name x p) (e :: es) [] pos) Φ Ψ := fun B Hn H σ S A Q q => by
  obtain ⟨f, fd, ps, us, dvs, F, MK, hb, hv, hd⟩ := G.ex
  refine run_pe (pe_makeSD (E := fun σ cls d H' => AirOk X cls d σ H') MK F hr hg G.hm hb hv (fun σ => pass_air) pa_run hdb hst hpl) ?_
  refine h B Hn H σ S A _ fun vs ds M1 Hn1 H1 p1 S1 e1 r1 => fun t dx ht hdx hne => ?_
  have S2 := S1.allocH (o := .own t) hdx
  have ht2 : upd H1 dx (.own t) t = none := by rw [upd_ne (Ne.symm hne)]; exact ht
  have S3 := S2.cell (c := .ins C []) (o := .ins C dx []) ht2 ⟨dx, [], upd_same, .nil⟩
  have hn := S1.rep.nn ht
  refine ⟨_, [(t, .ins C [])], Hn1, _, _, .cons (.raw _) (r1.append (hd _)), S3.rep.part (fun p hp => List.mem_append_right _ hp) (by simp), p1 t, fun v d M' Hn' H' p2 R st eM rv => ?_, fun x M' Hn' H' cls dd p2 R st eM ri => ?_⟩
  · obtain ⟨rfl, fs, rfl, p2⟩ := p2
    cases rv
    refine ⟨rfl, ?_⟩
    -- the instance becomes data
    have S4 : SR X.K B (M1 ++ [(t, .ins C fs)]) Γ Hn' H' σ := S3.call (M0 := [(t, .ins C [])]) (fun p hp => List.mem_append_right _ hp) R st eM (by simp) fun p hp => by
      rcases List.mem_append.mp hp with hp | hp
      · refine .inr ⟨List.mem_append_left _ hp, fun z => ?_⟩
        have z : p.1 = t := by simpa using z
        exact S1.rep.ne hp ht z
      · exact .inl hp
    obtain ⟨dx', gs, h1, rf⟩ := (S4.rep.cell (t, .ins C fs) (List.mem_append_right _ (List.mem_singleton.mpr rfl))).2
    have S5 := S4.toData (c := .ins C fs) (k := M1.length) (o := .ins C dx' gs) (by simp) h1 S1.few
    rw [erase_last] at S5
    have hn' : Hn' t = none := (R.cell (t, .ins C fs) (List.mem_singleton.mpr rfl)).1
    exact q _ _ _ _ _ p2 S5 ((e1.trans st.nn).trans (same_upd hn')) (.ins upd_same (rf.mono (same_upd hn')))
  · have em : ∃ c', M' = [(t, c')] := one_of eM
    obtain ⟨c', rfl⟩ := em
    have S4 : SR X.K B (M1 ++ [(t, c')]) Γ Hn' H' σ := S3.call (M0 := [(t, .ins C [])]) (fun p hp => List.mem_append_right _ hp) R st eM (by simp) fun p hp => by
      rcases List.mem_append.mp hp with hp | hp
      · refine .inr ⟨List.mem_append_left _ hp, fun z => ?_⟩
        have z : p.1 = t := by simpa using z
        exact S1.rep.ne hp ht z
      · exact .inl hp
    have S5 := S4.drop (k := M1.length) S1.few
    rw [erase_last] at S5
    exact A x M1 Hn' H' cls dd p2 S5 (e1.trans st.nn) ri
end
end DL
end

section
set_option Elab.async false
set_option linter.all false
set_option maxRecDepth 100000
set_option maxHeartbeats 4000000
/-! Statements over data; the rule for a def. -/
namespace DL
open PySem PySem.Spec PyProof.Rows L2

/-- what is wanted behind a statement -/
structure Post where
  nx : Sl → Mem → Prop
  rt : D → Mem → Prop
  bk : Sl → Mem → Prop := fun _ _ => False
  ct : Sl → Mem → Prop := fun _ _ => False
  ex : Exn → Sl → Mem → Prop := fun _ _ _ => False
def RunS (X : Cx) (st : Stmt) (σ : L2.St) (H : Hp) (De : Ends) : Prop := ∀ pins s, Inv X pins σ H s → wpAny (model X.prog X.w) X.A (exec st X.env) (SP X pins De) X.xe s
theorem ps_run {X : Cx} {st : Stmt} : PS X st (fun De σ H => RunS X st σ H De) := ⟨fun pins s σ H De I h => h pins s I⟩
theorem run_ps {X : Cx} {st : Stmt} {t : TS} (h : PS X st t) {σ : L2.St} {H : Hp} {De : Ends} (q : t De σ H) : RunS X st σ H De := fun pins s I => h.run pins s σ H De I q
def RunSs (X : Cx) (st : List Stmt) (σ : L2.St) (H : Hp) (De : Ends) : Prop := ∀ pins s, Inv X pins σ H s → wpAny (model X.prog X.w) X.A (execs st X.env) (SP X pins De) X.xe s
theorem pss_run {X : Cx} {st : List Stmt} : PSs X st (fun De σ H => RunSs X st σ H De) := ⟨fun pins s σ H De I h => h pins s I⟩
theorem run_pss {X : Cx} {st : List Stmt} {t : TS} (h : PSs X st t) {σ : L2.St} {H : Hp} {De : Ends} (q : t De σ H) : RunSs X st σ H De := fun pins s I => h.run pins s σ H De I q

/-- the ends give what is wanted -/
structure PostOk (X : Cx) (B : Bas) (P : Post) (De : Ends) : Prop where
  nx : ∀ Γ M Hn H σ, P.nx Γ M → SR X.K B M Γ Hn H σ → De.nx σ H
  bk : ∀ Γ M Hn H σ, P.bk Γ M → SR X.K B M Γ Hn H σ → De.bk σ H
  ct : ∀ Γ M Hn H σ, P.ct Γ M → SR X.K B M Γ Hn H σ → De.ct σ H
  rt : ∀ v d M Hn H, P.rt d M → SR X.K B M [] Hn H [] → Is X.K Hn v d → De.rt v H
  ex : ∀ x Γ M Hn H σ cls dd, P.ex x Γ M → SR X.K B M Γ Hn H σ → ExIs X.K Hn cls dd x → AirOk X cls dd σ H
theorem PostOk.air {X : Cx} {B : Bas} {P : Post} {De : Ends} (h : PostOk X B P De) {Γ : Sl} {Hn : Hp} {σ : L2.St} : Air X B Γ Hn σ (fun x M => P.ex x Γ M) := fun x M' Hn' H' cls dd p S _ r => h.ex x Γ M' Hn' H' σ cls dd p S r
def JS (X : Cx) (Γ : Sl) (M : Mem) (st : Stmt) (P : Post) : Prop := ∀ B Hn H σ, SR X.K B M Γ Hn H σ → ∀ De, PostOk X B P De → RunS X st σ H De
def JSs (X : Cx) (Γ : Sl) (M : Mem) (st : List Stmt) (P : Post) : Prop := ∀ B Hn H σ, SR X.K B M Γ Hn H σ → ∀ De, PostOk X B P De → RunSs X st σ H De

/-! ### a new base -/
section
variable {K : PySem.W.Frag} {B : Bas} {M M' : Mem} {Γ Γ' : Sl} {Hn H Hn' H' : Hp} {σ σ' : L2.St}
theorem SR.rebase (S : SR K B M Γ Hn H σ) : SR K ⟨Hn, H, M.map (·.1)⟩ M Γ Hn H σ := ⟨S.rep, Step.refl, fun p hp => .inl (List.mem_map_of_mem hp), List.prefix_refl _, S.sl⟩
theorem SR.back (S : SR K B M Γ Hn H σ) (S' : SR K ⟨Hn, H, M.map (·.1)⟩ M' Γ' Hn' H' σ') : SR K B M' Γ' Hn' H' σ' := by
  have st := S'.step
  have low : ∀ a, a ∈ M.map (·.1) → a ∈ B.A ∨ B.H a = Option.none := fun a ha => by
    obtain ⟨p, hp, rfl⟩ := List.mem_map.mp ha
    exact S.loc p hp
  have old : ∀ a, H a = Option.none → B.H a = Option.none := fun a h => S.old h
  refine ⟨S'.rep, ⟨S.step.nn.trans st.nn, fun a o ha ho => ?_, fun a ha => st.there a (S.step.there a ha), fun a hn n => ?_, fun a xs ea => ?_⟩, fun p hp => ?_, S.pre.trans S'.pre, S'.sl⟩
  · refine st.keep a o (fun hm => ?_) (S.step.keep a o ha ho)
    rcases low a hm with q | q
    · exact ha q
    · rw [q] at ho
      cases ho
  · cases q : Hn a with
    | none => exact S.step.fre (st.new a q n)
    | some o => exact S.step.new a hn (by rw [q]; simp)
  · rcases st.nt a xs ea with h | h
    · exact .inl (S.step.back h)
    · exact S.step.nt a xs h
  · rcases S'.loc p hp with q | q
    · exact low _ q
    · exact .inr (old _ q)
end
/-- as PostOk, what was data kept besides -/
structure PostOk' (X : Cx) (B : Bas) (Hn0 : Hp) (P : Post) (De : Ends) : Prop where
  nx : ∀ Γ M Hn H σ, P.nx Γ M → SR X.K B M Γ Hn H σ → Same Hn0 Hn → De.nx σ H
  bk : ∀ Γ M Hn H σ, P.bk Γ M → SR X.K B M Γ Hn H σ → Same Hn0 Hn → De.bk σ H
  ct : ∀ Γ M Hn H σ, P.ct Γ M → SR X.K B M Γ Hn H σ → Same Hn0 Hn → De.ct σ H
  rt : ∀ v d M Hn H, P.rt d M → SR X.K B M [] Hn H [] → Is X.K Hn v d → De.rt v H
  ex : ∀ x Γ M Hn H σ cls dd, P.ex x Γ M → SR X.K B M Γ Hn H σ → ExIs X.K Hn cls dd x → AirOk X cls dd σ H
theorem JSs.run' {X : Cx} {Γ : Sl} {M : Mem} {st : List Stmt} {P : Post} (h : JSs X Γ M st P) {B : Bas} {Hn H : Hp} {σ : L2.St} (S : SR X.K B M Γ Hn H σ) {De : Ends} (ok : PostOk' X B Hn P De) : RunSs X st σ H De :=
  h ⟨Hn, H, M.map (·.1)⟩ Hn H σ S.rebase De ⟨fun Γ M Hn H σ p S' => ok.nx Γ M Hn H σ p (S.back S') S'.step.nn, fun Γ M Hn H σ p S' => ok.bk Γ M Hn H σ p (S.back S') S'.step.nn, fun Γ M Hn H σ p S' => ok.ct Γ M Hn H σ p (S.back S') S'.step.nn,
    fun v d M Hn H p S' r => ok.rt v d M Hn H p (S.back S') r, fun x Γ M Hn H σ cls dd p S' r => ok.ex x Γ M Hn H σ cls dd p (S.back S') r⟩

section
variable {X : Cx} {Γ : Sl} {M : Mem} {P : Post} {a b c e o : Expr} {st : Stmt} {rest body orelse : List Stmt} {pos p pos2 pos' : Pos}
theorem jss_nil (h : P.nx Γ M) : JSs X Γ M [] P := fun B Hn H σ S De ok => run_pss pss_nil (ok.nx Γ M Hn H σ h S)
theorem jss_cons (h : JS X Γ M st { P with nx := fun Γ' M' => JSs X Γ' M' rest P }) : JSs X Γ M (st :: rest) P := fun B Hn H σ S De ok => by
  refine run_pss (pss_cons ps_run pss_run) ?_
  exact h B Hn H σ S _ ⟨fun Γ' M' Hn' H' σ' p S' => p B Hn' H' σ' S' De ok, ok.bk, ok.ct, ok.rt, ok.ex⟩
theorem jss_one (h : JS X Γ M st P) : JSs X Γ M [st] P := fun B Hn H σ S De ok => run_pss (pss_one ps_run) (h B Hn H σ S De ok)
/-- less is known -/
theorem JSs.weak {st : List Stmt} {Γ' : Sl} {M' : Mem} (h : JSs X Γ' M' st P) (w : ∀ B Hn H σ, SR X.K B M Γ Hn H σ → ∃ Hn', SR X.K B M' Γ' Hn' H σ) : JSs X Γ M st P := fun B Hn H σ S De ok => by
  obtain ⟨Hn', S'⟩ := w B Hn H σ S
  exact h B Hn' H σ S' De ok
theorem JSs.imp {st : List Stmt} {P' : Post} (h : JSs X Γ M st P') (h1 : ∀ Γ M, P'.nx Γ M → P.nx Γ M) (h2 : ∀ d M, P'.rt d M → P.rt d M) (h3 : ∀ Γ M, P'.bk Γ M → P.bk Γ M) (h4 : ∀ Γ M, P'.ct Γ M → P.ct Γ M) (h5 : ∀ x Γ M, P'.ex x Γ M → P.ex x Γ M) : JSs X Γ M st P :=
  fun B Hn H σ S De ok => h B Hn H σ S De ⟨fun Γ M Hn H σ p => ok.nx Γ M Hn H σ (h1 Γ M p), fun Γ M Hn H σ p => ok.bk Γ M Hn H σ (h3 Γ M p), fun Γ M Hn H σ p => ok.ct Γ M Hn H σ (h4 Γ M p), fun v d M Hn H p => ok.rt v d M Hn H (h2 d M p), fun x Γ M Hn H σ cls dd p => ok.ex x Γ M Hn H σ cls dd (h5 x Γ M p)⟩
/-- what follows is shown once, from Mid -/
theorem jss_cut (Mid : Sl → Mem → Prop) (h : JS X Γ M st { P with nx := Mid }) (k : ∀ Γ' M', Mid Γ' M' → JSs X Γ' M' rest P) : JSs X Γ M (st :: rest) P := jss_cons fun B Hn H σ S De ok => h B Hn H σ S De ⟨fun Γ M Hn H σ p S => ok.nx Γ M Hn H σ (k Γ M p) S, ok.bk, ok.ct, ok.rt, ok.ex⟩
/-- a list that was filled is data from here on -/
theorem jss_freeze (i k : Nat) {st : List Stmt} {t : Addr} {ds : List D} (hk : M[k]? = some (t, .lst ds)) (hi : Γ[i]? = some (some (.raw (.ref t)))) (hz : ∀ B Hn H σ, SR X.K B M Γ Hn H σ → B.A.length ≤ k) (h : JSs X (Γ.set i (some (.lst ds))) (M.eraseIdx k) st P) : JSs X Γ M st P :=
  h.weak fun B Hn H σ S => by
    obtain ⟨vs, h1, r⟩ := (S.rep.cell _ (List.mem_of_getElem? hk)).2
    have hn : Hn t = none := (S.rep.cell _ (List.mem_of_getElem? hk)).1
    refine ⟨_, (S.toData hk h1 (hz B Hn H σ S)).retype hi (.lst upd_same (r.mono (same_upd hn)))⟩

/-! ### targets -/
def RunG (X : Cx) (tg : Expr) (v : V) (σ : L2.St) (H : Hp) (Q : L2.St → Hp → Prop) : Prop := ∀ pins s u, Inv X pins σ H s → RelV v u → wpAny (model X.prog X.w) X.A (assign tg X.env u) (fun _ s' => ∃ σ' H', Inv X pins σ' H' s' ∧ Q σ' H') X.xe s
theorem pg_run {X : Cx} {tg : Expr} : PG X tg (RunG X tg) := ⟨fun pins s σ H v u Q I r h => h pins s u I r⟩
/-- tg = what stands for d -/
def JG (X : Cx) (Γ : Sl) (M : Mem) (tg : Expr) (d : D) (Φ : Sl → Mem → Prop) : Prop := ∀ B Hn H σ v, SR X.K B M Γ Hn H σ → Is X.K Hn v d → ∀ Q : L2.St → Hp → Prop, (∀ Γ' M' Hn' H' σ', Φ Γ' M' → SR X.K B M' Γ' Hn' H' σ' → Same Hn Hn' → Q σ' H') → RunG X tg v σ H Q
def RunGs (X : Cx) (ts : List Expr) (vs : List V) (σ : L2.St) (H : Hp) (Q : L2.St → Hp → Prop) : Prop := ∀ pins s us, Inv X pins σ H s → Vals vs us → wpAny (model X.prog X.w) X.A (assignInOrder ((assignEach ts X.env).map (·.2)) us) (fun _ s' => ∃ σ' H', Inv X pins σ' H' s' ∧ Q σ' H') X.xe s
theorem pgs_run {X : Cx} {ts : List Expr} : PGs X ts (RunGs X ts) := ⟨fun pins s σ H vs us Q I r h => h pins s us I r⟩
def JGs (X : Cx) (Γ : Sl) (M : Mem) (ts : List Expr) (ds : List D) (Φ : Sl → Mem → Prop) : Prop := ∀ B Hn H σ vs, SR X.K B M Γ Hn H σ → IsA X.K Hn vs ds → ∀ Q : L2.St → Hp → Prop, (∀ Γ' M' Hn' H' σ', Φ Γ' M' → SR X.K B M' Γ' Hn' H' σ' → Same Hn Hn' → Q σ' H') → RunGs X ts vs σ H Q
theorem len_of {X : Cx} {pins : List (Addr × Obj)} {σ : L2.St} {H : Hp} {s : Shared} {i : Nat} {x : Str} (I : Inv X pins σ H s) (hi : X.N[i]? = some x) : i < σ.length := by
  rw [I.len]
  exact (List.getElem?_eq_some_iff.mp hi).1
theorem jg_name (i : Nat) {x : Str} {d : D} {Φ : Sl → Mem → Prop} (h : Φ (Γ.set i (some d)) M) (hN : X.N.Nodup) (hi : X.N[i]? = some x := by rfl) (hx : Loc X.env.scope x := by first | exact Or.inl rfl | exact Or.inr rfl)
    (hf : X.fn x = true ∨ X.env.scope.names.lookup x = some .local := by first | exact .inl rfl | exact .inr rfl | assumption) : JG X Γ M (.Name x pos) d Φ := fun B Hn H σ v S r Q q pins s u I ru => by
  exact (pg_name hN hi hx hf).run pins s σ H v u Q I ru (q _ _ Hn H _ h (S.set (len_of I hi) r) (Same.refl _))
theorem jgs_nil {Φ : Sl → Mem → Prop} (h : Φ Γ M) : JGs X Γ M [] [] Φ := fun B Hn H σ vs S r Q q pins s us I ru => by
  cases r
  exact pgs_nil.run pins s σ H [] us Q I ru ⟨rfl, q _ _ _ _ _ h S (Same.refl _)⟩
theorem jgs_cons {ts : List Expr} {d : D} {ds : List D} {Φ : Sl → Mem → Prop} (h : JG X Γ M e d (fun Γ1 M1 => JGs X Γ1 M1 ts ds Φ)) (hs : (assignEach (e :: ts) X.env).map (·.2) = assign e X.env :: (assignEach ts X.env).map (·.2) := by rfl) : JGs X Γ M (e :: ts) (d :: ds) Φ := fun B Hn H σ vs S r Q q pins s us I ru => by
  cases r with
  | @cons v _ vs _ r1 r2 =>
    refine (pgs_cons pg_run pgs_run hs).run pins s σ H (v :: vs) us Q I ru ⟨v, vs, rfl, ?_⟩
    refine h B Hn H σ v S r1 _ fun Γ1 M1 Hn1 H1 σ1 p1 S1 e1 => ?_
    exact p1 B Hn1 H1 σ1 vs S1 (r2.mono e1) Q fun Γ' M' Hn' H' σ' p2 S2 e2 => q Γ' M' Hn' H' σ' p2 S2 (e1.trans e2)
theorem jg_tup {es : List Expr} {k n : Nat} {ds : List D} {Φ : Sl → Mem → Prop} (h : JGs X Γ M es ds Φ) (hl : ds.length = n) (hc : X.calm = true := by rfl) (hn : (assignEach es X.env).length = n := by rfl) (hst : (assignEach es X.env).findIdx? (·.1) = none := by rfl) : JG X Γ M (.Tuple es k pos) (.tup ds) Φ := fun B Hn H σ v S r Q q pins s u I ru => by
  cases r with
  | @tup t ws _ ht r =>
    refine (pg_tup hc pgs_run hn hst).run pins s σ H _ u Q I ru ⟨t, ws, rfl, same_t S.rep.sub ht, by rw [r.length, hl], ?_⟩
    exact h B Hn H σ ws S r Q q

/-! ### statements -/
theorem js_asg {tg : Expr} (h : JE X Γ M e (fun d M1 => JG X Γ M1 tg d P.nx) (fun x M1 => P.ex x Γ M1)) (hs : swapsWithSole [tg] e pos.line X.env = pure false := by rfl) (hw : swappedStores [tg] e X.env = pure none := by rfl)
    (h1 : (assignEach [tg] X.env).map (·.2) = [assign tg X.env] := by rfl) : JS X Γ M (.Assign [tg] e pos) P := fun B Hn H σ S De ok => by
  refine run_ps (ps_asg pe_run pg_run hs hw h1) ?_
  refine h B Hn H σ S ok.air _ fun v d M1 Hn1 H1 p S1 e1 r1 => ?_
  exact p B Hn1 H1 σ v S1 r1 _ fun Γ' M' Hn' H' σ' p2 S2 e2 => ok.nx Γ' M' Hn' H' σ' p2 S2
/-- x = e -/
theorem js_set (i : Nat) {x : Str} (h : JE X Γ M e (fun d M1 => P.nx (Γ.set i (some d)) M1) (fun x M1 => P.ex x Γ M1)) (hN : X.N.Nodup) (hi : X.N[i]? = some x := by rfl) (hx : Loc X.env.scope x := by first | exact Or.inl rfl | exact Or.inr rfl)
    (hs : swapsWith e (some (.Name x pos')) pos.line X.env = pure false := by rfl) (hf : X.fn x = true ∨ X.env.scope.names.lookup x = some .local := by first | exact .inl rfl | exact .inr rfl | assumption) : JS X Γ M (.Assign [.Name x pos'] e pos) P := fun B Hn H σ S De ok pins s I => by
  refine (ps_set hN hi hx pe_run hs hf).run pins s σ H De I ?_
  exact h B Hn H σ S ok.air _ fun v d M1 Hn1 H1 p S1 e1 r1 => ok.nx _ _ _ _ _ p (S1.set (len_of I hi) r1)
theorem js_expr (h : JE X Γ M e (fun d M1 => P.nx Γ M1) (fun x M1 => P.ex x Γ M1)) (hs : swapsWith e none pos.line X.env = pure false := by rfl) : JS X Γ M (.Expr e pos) P := fun B Hn H σ S De ok => by
  refine run_ps (ps_expr pe_run hs) ?_
  exact h B Hn H σ S ok.air _ fun v d M1 Hn1 H1 p S1 e1 r1 => ok.nx _ _ _ _ _ p S1
theorem js_ret (h : JE X Γ M e (fun d M1 => P.rt d M1) (fun x M1 => P.ex x Γ M1)) : JS X Γ M (.Return (some e) pos) P := fun B Hn H σ S De ok => by
  refine run_ps (ps_ret pe_run) ?_
  exact h B Hn H σ S ok.air _ fun v d M1 Hn1 H1 p S1 e1 r1 => ok.rt v d M1 Hn1 H1 p S1.none r1
theorem js_retN (h : P.rt .non M) : JS X Γ M (.Return none pos) P := fun B Hn H σ S De ok => run_ps ps_retN (ok.rt .non .non M Hn H h S.none .non)
theorem js_pass (h : P.nx Γ M) : JS X Γ M (.Pass pos) P := fun B Hn H σ S De ok => run_ps ps_pass (ok.nx _ _ _ _ _ h S)
theorem js_break (h : P.bk Γ M) : JS X Γ M (.Break pos) P := fun B Hn H σ S De ok => run_ps ps_break (ok.bk _ _ _ _ _ h S)
theorem js_cont (h : P.ct Γ M) : JS X Γ M (.Continue pos) P := fun B Hn H σ S De ok => run_ps ps_continue (ok.ct _ _ _ _ _ h S)
theorem js_if (h : JT X Γ M c (fun k M1 => if k = true then JSs X Γ M1 body P else JSs X Γ M1 orelse P) (fun x M1 => P.ex x Γ M1)) : JS X Γ M (.If c body orelse pos) P := fun B Hn H σ S De ok => by
  refine run_ps (ps_if pt_run pss_run pss_run) ?_
  refine h B Hn H σ S ok.air _ fun k M1 Hn1 H1 p S1 e1 => ?_
  cases k with
  | true =>
    rw [if_pos rfl] at p
    rw [if_pos rfl]
    exact p B Hn1 H1 σ S1 De ok
  | false =>
    rw [if_neg Bool.false_ne_true] at p
    rw [if_neg Bool.false_ne_true]
    exact p B Hn1 H1 σ S1 De ok
theorem js_aug (i : Nat) {x : Str} {op : Operator} {n m : Int} (hn : Γ[i]? = some (some (.int n))) (f : Int → Int → Int) (ho : PIp X op (ipI f)) (h : JE X Γ M e (fun d M1 => ∃ m, d = .int m ∧ P.nx (Γ.set i (some (.int (f n m)))) M1) (fun x M1 => P.ex x Γ M1)) (hN : X.N.Nodup) (hi : X.N[i]? = some x := by rfl)
    (hx : Loc X.env.scope x := by first | exact Or.inl rfl | exact Or.inr rfl) (hf : X.fn x = true ∨ X.env.scope.names.lookup x = some .local := by first | exact .inl rfl | exact .inr rfl | assumption) : JS X Γ M (.AugAssign (.Name x pos') op e pos) P := fun B Hn H σ S De ok pins s I => by
  obtain ⟨v, hv, rv⟩ := S.sl i _ hn
  cases rv
  refine (ps_aug hN hi hx pe_run ho hf).run pins s σ H De I ⟨_, hv, ?_⟩
  refine h B Hn H σ S ok.air _ fun v d M1 Hn1 H1 p S1 e1 r1 => ?_
  obtain ⟨m, rfl, p⟩ := p
  cases r1
  exact ⟨n, m, rfl, rfl, ok.nx _ _ _ _ _ p (S1.set (len_of I hi) (.int _))⟩
/-- a, b = e1, e2 -/
theorem js_par (i j : Nat) {x y : Str} {px py pt : Pos} {kt k2 pt2} (h : JA X Γ M [a, b] (fun ds M1 => ∃ d1 d2, ds = [d1, d2] ∧ P.nx ((Γ.set i (some d1)).set j (some d2)) M1) (fun x M1 => P.ex x Γ M1)) (hN : X.N.Nodup) (hc : X.calm = true := by rfl) (hi : X.N[i]? = some x := by rfl) (hj : X.N[j]? = some y := by rfl) (hij : i ≠ j := by decide)
    (hx : X.env.scope.names.lookup x = some .local := by rfl) (hy : X.env.scope.names.lookup y = some .local := by rfl) (hw : swappedStores [.Tuple [.Name x px, .Name y py] kt pt] (.Tuple [a, b] k2 pt2) X.env = pure (some [x, y]) := by rfl)
    (hs : swapsWithSole [.Tuple [.Name x px, .Name y py] kt pt] (.Tuple [a, b] k2 pt2) pos.line X.env = pure false := by rfl) : JS X Γ M (.Assign [.Tuple [.Name x px, .Name y py] kt pt] (.Tuple [a, b] k2 pt2) pos) P := fun B Hn H σ S De ok pins s I => by
  refine (ps_par hc hN hi hj hij hx hy pa_run hw hs).run pins s σ H De I ?_
  refine h B Hn H σ S ok.air _ fun vs ds M1 Hn1 H1 p S1 e1 r1 => ?_
  obtain ⟨d1, d2, rfl, p⟩ := p
  obtain ⟨v1, v2, rfl, r1, r2⟩ := r1.two
  refine ⟨v1, v2, rfl, ok.nx _ _ _ _ _ p ((S1.set (len_of I hi) r1).set ?_ r2)⟩
  rw [List.length_set]
  exact len_of I hj
/-- d[k] = e, d a cell -/
theorem js_dputK (k : Nat) {i : Expr} (hu : X.A.units + 1 < cLine) (h : JE X Γ M e (fun d M1 => JE X Γ M1 o (fun x M2 => JE X Γ M2 i (fun y M3 => ∃ t kvs j, x = .raw (.ref t) ∧ M3[k]? = some (t, .dK kvs) ∧ y = keyD j ∧ kvs.length < 1000000 ∧ P.nx Γ (M3.set k (t, .dK (ptD kvs y d)))) (fun x M1 => P.ex x Γ M1)) (fun x M1 => P.ex x Γ M1)) (fun x M1 => P.ex x Γ M1))
    (hs : swapsWith e (some (.Subscript o i pos')) pos.line X.env = pure false := by rfl) : JS X Γ M (.Assign [.Subscript o i pos'] e pos) P := fun B Hn H σ S De ok => by
  refine run_ps (ps_dput hu pe_run pe_run pe_run hs) ?_
  refine h B Hn H σ S ok.air _ fun v d M1 Hn1 H1 p1 S1 e1 r1 => ?_
  refine p1 B Hn1 H1 σ S1 ok.air _ fun w x M2 Hn2 H2 p2 S2 e2 r2 => ?_
  refine p2 B Hn2 H2 σ S2 ok.air _ fun u y M3 Hn3 H3 p3 S3 e3 r3 => ?_
  obtain ⟨t, kvs, j, rfl, hk, rfl, hl, p3⟩ := p3
  cases r2
  obtain ⟨ks, h1, rk⟩ := (S3.rep.cell _ (List.mem_of_getElem? hk)).2
  have eu := kV_of r3
  subst eu
  refine ⟨t, _, rfl, DPut.k h1 (by rw [rk.length, sizeLine_eq]; omega), ?_⟩
  exact ok.nx _ _ _ _ _ p3 (S3.put hk ⟨_, upd_same, rk.put ((r1.mono e2).mono e3) j⟩)
theorem js_dputT (k : Nat) {i : Expr} (hu : X.A.units + 1 < cLine) (h : JE X Γ M e (fun d M1 => JE X Γ M1 o (fun x M2 => JE X Γ M2 i (fun y M3 => ∃ t kvs j, x = .raw (.ref t) ∧ M3[k]? = some (t, .dT kvs) ∧ y = tkD j ∧ j ≠ [] ∧ kvs.length < 1000000 ∧ P.nx Γ (M3.set k (t, .dT (ptD kvs y d)))) (fun x M1 => P.ex x Γ M1)) (fun x M1 => P.ex x Γ M1)) (fun x M1 => P.ex x Γ M1))
    (hs : swapsWith e (some (.Subscript o i pos')) pos.line X.env = pure false := by rfl) : JS X Γ M (.Assign [.Subscript o i pos'] e pos) P := fun B Hn H σ S De ok => by
  refine run_ps (ps_dput hu pe_run pe_run pe_run hs) ?_
  refine h B Hn H σ S ok.air _ fun v d M1 Hn1 H1 p1 S1 e1 r1 => ?_
  refine p1 B Hn1 H1 σ S1 ok.air _ fun w x M2 Hn2 H2 p2 S2 e2 r2 => ?_
  refine p2 B Hn2 H2 σ S2 ok.air _ fun u y M3 Hn3 H3 p3 S3 e3 r3 => ?_
  obtain ⟨t, kvs, j, rfl, hk, rfl, hj, hl, p3⟩ := p3
  cases r2
  obtain ⟨ks, h1, rk⟩ := (S3.rep.cell _ (List.mem_of_getElem? hk)).2
  obtain ⟨tb, rfl, htb⟩ := tk_of S3.rep.sub hj r3
  refine ⟨t, _, rfl, DPut.t h1 htb (by rw [rk.length, sizeLine_eq]; omega), ?_⟩
  exact ok.nx _ _ _ _ _ p3 (S3.put hk ⟨_, upd_same, rk.put ((r1.mono e2).mono e3) j⟩)
/-- self.f = e, self a cell -/
theorem js_fld (k : Nat) {f : Str} (h : JE X Γ M e (fun d M1 => JE X Γ M1 o (fun x M2 => ∃ t C fs, x = .raw (.ref t) ∧ M2[k]? = some (t, .ins C fs) ∧ Cls X.K C ∧ NoAttr X.K C f ∧ fs.length < 900 ∧ P.nx Γ (M2.set k (t, .ins C (putD f d fs)))) (fun x M1 => P.ex x Γ M1)) (fun x M1 => P.ex x Γ M1))
    (hs : swapsWith e (some (.Attribute o f pos')) pos.line X.env = pure false := by rfl) : JS X Γ M (.Assign [.Attribute o f pos'] e pos) P := fun B Hn H σ S De ok => by
  refine run_ps (ps_fld pe_run pe_run hs) ?_
  refine h B Hn H σ S ok.air _ fun v d M1 Hn1 H1 p1 S1 e1 r1 => ?_
  refine p1 B Hn1 H1 σ S1 ok.air _ fun w x M2 Hn2 H2 p2 S2 e2 r2 => ?_
  obtain ⟨t, C, fs, rfl, hk, c, n, hl, p2⟩ := p2
  cases r2
  obtain ⟨dx, gs, h1, rf⟩ := (S2.rep.cell _ (List.mem_of_getElem? hk)).2
  refine ⟨t, C, dx, gs, rfl, h1, c, n, by rw [rf.length]; omega, ?_⟩
  exact ok.nx _ _ _ _ _ p2 (S2.put hk ⟨dx, _, upd_same, rf.put (r1.mono e2)⟩)
theorem js_while (hp : PassesOwn (model X.prog X.w) X.A X.env X.xe) (W : Nat → Sl → Mem → Prop) (m0 : Nat) (h0 : W m0 Γ M)
    (h : ∀ m Γ1 M1, W m Γ1 M1 → JT X Γ1 M1 c (fun k M2 => if k = true then JSs X Γ1 M2 body { P with nx := fun Γ3 M3 => ∃ m', m' < m ∧ W m' Γ3 M3, ct := fun Γ3 M3 => ∃ m', m' < m ∧ W m' Γ3 M3, bk := P.nx } else P.nx Γ1 M2) (fun x M1 => P.ex x Γ1 M1)) : JS X Γ M (.While c body [] pos) P := fun B Hn H σ S De ok => by
  refine run_ps (ps_while hp pt_run pss_run) ?_
  refine ⟨fun m σ' H' => ∃ Γ1 M1 Hn1, W m Γ1 M1 ∧ SR X.K B M1 Γ1 Hn1 H' σ', ⟨m0, Γ, M, Hn, h0, S⟩, fun m σ' H' w => ?_⟩
  obtain ⟨Γ1, M1, Hn1, w1, S1⟩ := w
  refine h m Γ1 M1 w1 B Hn1 H' σ' S1 ok.air _ fun k M2 Hn2 H2 p S2 e2 => ?_
  cases k with
  | true =>
    rw [if_pos rfl] at p
    rw [if_pos rfl]
    refine ⟨fun σ3 H3 => ∃ m', m' < m ∧ ∃ Γ3 M3 Hn3, W m' Γ3 M3 ∧ SR X.K B M3 Γ3 Hn3 H3 σ3, fun σ3 H3 n => n, ?_⟩
    exact p B Hn2 H2 σ' S2 _ ⟨fun Γ3 M3 Hn3 H3 σ3 ⟨m', hm, w⟩ S3 => ⟨m', hm, Γ3, M3, Hn3, w, S3⟩, ok.nx, fun Γ3 M3 Hn3 H3 σ3 ⟨m', hm, w⟩ S3 => ⟨m', hm, Γ3, M3, Hn3, w, S3⟩, ok.rt, ok.ex⟩
  | false =>
    rw [if_neg Bool.false_ne_true] at p
    rw [if_neg Bool.false_ne_true]
    exact ok.nx _ _ _ _ _ p S2

/-! ### the rule for a def -/
theorem fn_d {Pg : Program} {w : World} {K : PySem.W.Frag} {mg : Str → Option Value} {base : Heap} {x qual : Str} {st : Stmt} {f : Addr} {fd : FuncData} {N ps : List Str} {k : Nat} {spec : Spec} (F : Fun K x qual st f fd) (Sc : FnScope N ps (defScope st))
    (len : ∀ ds M Φ Ψ, spec ds M Φ Ψ → ds.length = ps.length)
    (body : ∀ (cdv : Value) (A : Around) (outer : List Env) (s : Shared) (H : Hp) (E : XK), Room k (A.deeper (envOfC qual (defScope st) s.heap.objs.size f cdv)) → ∀ ds M Φ Ψ, spec ds M Φ Ψ →
      JSs (cxOf (L2.CX Pg w) Pg w K mg base N qual (defScope st) f cdv A outer s H E) (ds.map some ++ List.replicate (N.length - ds.length) none) M (defBody st)
        { nx := fun _ M' => Φ .non (M'.take M.length), rt := fun d M' => Φ d (M'.take M.length), ex := fun x _ M' => Ψ x (M'.take M.length) }) : FnOk Pg w K mg base (L2.CX Pg w) (k + 1) f fd ps (spD K spec) := by
  refine F.okX Sc (fun vs H Q E h => ?_) (fun cdv A outer s H vs Q E hr h => ?_)
  · obtain ⟨ds, M, Hn, Φ, Ψ, r, _, hsp, _⟩ := h
    rw [r.length]
    exact len _ _ _ _ hsp
  · obtain ⟨ds, M, Hn, Φ, Ψ, r, R, hsp, q, qx⟩ := h
    refine ⟨_, pss_run, ?_⟩
    have pre : M.map (·.1) <+: M.map (·.1) := List.prefix_refl _
    have S : SR K ⟨Hn, H, M.map (·.1)⟩ M (ds.map some ++ List.replicate (N.length - ds.length) none) Hn H (L2.start N vs) := by
      refine ⟨R, Step.refl, fun p hp => .inl (List.mem_map_of_mem hp), pre, fun i d hi => ?_⟩
      unfold L2.start
      by_cases hl : i < ds.length
      · rw [List.getElem?_append_left (by simpa using hl), List.getElem?_map] at hi
        cases hd : ds[i]? with
        | none => rw [hd] at hi; cases hi
        | some d' =>
          rw [hd] at hi
          cases hi
          obtain ⟨v, hv, rv⟩ := r.get hd
          exact ⟨v, by rw [List.getElem?_append_left (by rw [List.length_map, r.length]; exact hl), List.getElem?_map, hv]; rfl, rv⟩
      · rw [List.getElem?_append_right (by simpa using hl), List.getElem?_replicate] at hi
        split at hi <;> cases hi
    -- what a state behind gives the caller
    have back : ∀ {M' : Mem} {Γ' : Sl} {Hn' H' : Hp} {σ' : L2.St}, SR K ⟨Hn, H, M.map (·.1)⟩ M' Γ' Hn' H' σ' → Rep K (M'.take M.length) Hn' H' ∧ (M'.take M.length).map (·.1) = M.map (·.1) := by
      intro M' Γ' Hn' H' σ' S'
      refine ⟨S'.rep.part (fun p hp => List.mem_of_mem_take hp) ?_, ?_⟩
      · rw [List.map_take]
        exact S'.rep.nd.sublist (List.take_sublist _ _)
      · obtain ⟨z, hz⟩ := S'.pre
        rw [List.map_take, ← hz]
        have hz' : M.map (·.1) ++ z = M'.map (·.1) := hz
        rw [List.take_append_of_le_length (by simp), List.take_of_length_le (by simp)]
    refine body cdv A outer s H E hr ds M Φ Ψ hsp (⟨Hn, H, M.map fun p : Addr × Cell => p.1⟩ : Bas) Hn H (L2.start N vs) S _ ⟨fun Γ' M' Hn' H' σ' p S' => ?_, fun Γ' M' Hn' H' σ' p => p.elim, fun Γ' M' Hn' H' σ' p => p.elim, fun v d M' Hn' H' p S' rv => ?_, fun x Γ' M' Hn' H' σ' cls dd p S' ri => ?_⟩
    · obtain ⟨b1, b2⟩ := back S'
      exact q .non .non _ Hn' H' p b1 S'.step b2 .non
    · obtain ⟨b1, b2⟩ := back S'
      exact q v d _ Hn' H' p b1 S'.step b2 rv
    · obtain ⟨b1, b2⟩ := back S'
      exact air_of (W := fun cls d _ H => E cls d H) (takes_of rfl rfl rfl rfl) (qx x _ Hn' H' cls dd p b1 S'.step b2 ri)
end
end DL
end

section
set_option Elab.async false
set_option linter.all false
set_option maxRecDepth 100000
set_option maxHeartbeats 4000000
/-! What is walked: loops, comprehensions. -/
namespace DL
open PySem PySem.Spec PyProof.Rows L2

def RunI (X : Cx) (tg iter : Expr) (σ : L2.St) (H : Hp) (R : It → Hp → Prop) : Prop := ∀ pins s, Inv X pins σ H s → wpAny (model X.prog X.w) X.A (eval iter X.env) (fun v s1 => wpAny (model X.prog X.w) X.A (pyIter v) (PIE X pins σ tg R) X.xe s1) X.xe s
theorem pi_run {X : Cx} {tg iter : Expr} : PI X tg iter (RunI X tg iter) := ⟨fun pins s σ H R I h => h pins s I⟩
/-- J yields what stands for xs, while what was data at Hn0 is -/
structure Good (K : PySem.W.Frag) (Hn0 : Hp) (J : It) (xs : List D) : Prop where
  go : ∀ i Hn H, Same Hn0 Hn → Same Hn H → i < xs.length → J.go i H
  stop : ∀ Hn H, Same Hn0 Hn → Same Hn H → J.stop xs.length H
  yld : ∀ i Hn H v H', Same Hn0 Hn → Same Hn H → J.yld i H v H' → i < xs.length → ∃ d, xs[i]? = some d ∧ ((H' = H ∧ Is K Hn v d) ∨ ∃ p o, H p = none ∧ H' = upd H p o ∧ Is K (upd Hn p o) v d)
def JI (X : Cx) (Γ : Sl) (M : Mem) (tg iter : Expr) (Φ : List D → Mem → Prop) (Ψ : XP) : Prop := ∀ B Hn H σ, SR X.K B M Γ Hn H σ → Air X B Γ Hn σ Ψ → ∀ R : It → Hp → Prop,
  (∀ J xs M' Hn' H', Φ xs M' → SR X.K B M' Γ Hn' H' σ → Same Hn Hn' → Good X.K Hn' J xs → R J H') → RunI X tg iter σ H R
section
variable {X : Cx} {Γ : Sl} {M : Mem} {Ψ : XP} {Φ : List D → Mem → Prop} {tg e a b : Expr} {pos p : Pos}
theorem ji_list (h : JE X Γ M e (fun d M1 => ∃ xs, d = .lst xs ∧ Φ xs M1) Ψ) : JI X Γ M tg e Φ Ψ := fun B Hn H σ S A R q pins s I => by
  refine (pi_list pe_run).run pins s σ H R I ?_
  refine h B Hn H σ S A _ fun v d M1 Hn1 H1 p S1 e1 r1 => ?_
  obtain ⟨xs, rfl, p⟩ := p
  cases r1 with
  | @lst t ws _ h1 r1 =>
    refine ⟨t, rfl, ⟨ws, SqL.of (S1.rep.sub _ _ h1)⟩, q _ xs _ _ _ p S1 e1 ⟨fun i Hn H e f hi => ?_, fun Hn H e f => ?_, fun i Hn H v H' e f hy hi => ?_⟩⟩
    · obtain ⟨w, hw, _⟩ := r1.get (List.getElem?_eq_getElem hi)
      exact ⟨ws, w, SqL.of (f _ _ (e _ _ h1)), hw⟩
    · exact ⟨ws, SqL.of (f _ _ (e _ _ h1)), by rw [r1.length]; exact Nat.le_refl _⟩
    · obtain ⟨rfl, hy⟩ := hy
      have hw := hy ws (SqL.of (f _ _ (e _ _ h1)))
      obtain ⟨d, hd, rd⟩ := r1.get' hw
      exact ⟨d, hd, .inl ⟨rfl, rd.mono e⟩⟩
theorem ji_tup (h : JE X Γ M e (fun d M1 => ∃ xs, d = .tup xs ∧ Φ xs M1) Ψ) : JI X Γ M tg e Φ Ψ := fun B Hn H σ S A R q pins s I => by
  refine (pi_tup pe_run).run pins s σ H R I ?_
  refine h B Hn H σ S A _ fun v d M1 Hn1 H1 p S1 e1 r1 => ?_
  obtain ⟨xs, rfl, p⟩ := p
  cases r1 with
  | @tup t ws _ h1 r1 =>
    refine ⟨t, rfl, ⟨ws, same_t S1.rep.sub h1⟩, q _ xs _ _ _ p S1 e1 ⟨fun i Hn H e f hi => ?_, fun Hn H e f => ?_, fun i Hn H v H' e f hy hi => ?_⟩⟩
    · obtain ⟨w, hw, _⟩ := r1.get (List.getElem?_eq_getElem hi)
      exact ⟨ws, w, same_t (e.trans f) h1, hw⟩
    · exact ⟨ws, same_t (e.trans f) h1, by rw [r1.length]; exact Nat.le_refl _⟩
    · obtain ⟨rfl, hy⟩ := hy
      have hw := hy ws (same_t (e.trans f) h1)
      obtain ⟨d, hd, rd⟩ := r1.get' hw
      exact ⟨d, hd, .inl ⟨rfl, rd.mono e⟩⟩
/-- 0, 1, .. as data -/
def rngD (lo : Int) (n : Nat) : List D := (List.range n).map fun i => .int (lo + (i : Nat))
theorem rngD_length (lo : Int) (n : Nat) : (rngD lo n).length = n := by simp [rngD]
theorem rngD_get {lo : Int} {n i : Nat} (h : i < n) : (rngD lo n)[i]? = some (.int (lo + (i : Nat))) := by
  unfold rngD
  rw [List.getElem?_map, List.getElem?_range h]
  rfl
theorem good_rng {K : PySem.W.Frag} {Hn : Hp} (lo : Int) (n : Nat) : Good K Hn (Itr lo n) (rngD lo n) := by
  refine ⟨fun i _ _ _ _ hi => by rw [rngD_length] at hi; exact hi, fun _ _ _ _ => by rw [rngD_length]; exact Nat.le_refl _, fun i Hn H v H' _ _ hy hi => ?_⟩
  rw [rngD_length] at hi
  obtain ⟨rfl, rfl⟩ := hy
  exact ⟨_, rngD_get hi, .inl ⟨rfl, .int _⟩⟩
theorem ji_range1 (hm : X.mg "range" = none) (h : JE X Γ M a (fun d M1 => ∃ n : Int, d = .int n ∧ -1000000 ≤ n ∧ n ≤ 1000000 ∧ Φ (rngD 0 n.toNat) M1) Ψ) (hg : Gl X "range" := by rfl) (hs : starEach [a] X.env = [(false, eval a X.env)] := by rfl) : JI X Γ M tg (.Call (.Name "range" p) [a] [] pos) Φ Ψ := fun B Hn H σ S A R q pins s I => by
  refine (pi_range1 hg hm (pa_cons pe_run pa_nil hs) hs).run pins s σ H R I ?_
  refine h B Hn H σ S A _ fun v d M1 Hn1 H1 p S1 e1 r1 => ?_
  obtain ⟨n, rfl, h1, h2, p⟩ := p
  cases r1
  exact ⟨n, rfl, by omega, by omega, q _ _ _ _ _ p S1 e1 (good_rng 0 n.toNat)⟩
theorem ji_str (h : JE X Γ M e (fun d M1 => ∃ x, d = .str x ∧ Φ (x.cps.toList.map fun c => .str ⟨#[c]⟩) M1) Ψ) : JI X Γ M tg e Φ Ψ := fun B Hn H σ S A R q pins s I => by
  refine (pi_str pe_run).run pins s σ H R I ?_
  refine h B Hn H σ S A _ fun v d M1 Hn1 H1 p S1 e1 r1 => ?_
  obtain ⟨x, rfl, p⟩ := p
  cases r1
  refine ⟨x, rfl, q _ _ _ _ _ p S1 e1 ⟨fun i _ _ _ _ hi => by rw [List.length_map, Array.length_toList] at hi; exact hi, fun _ _ _ _ => by rw [List.length_map, Array.length_toList]; exact Nat.le_refl _, fun i Hn H v H' _ _ hy hi => ?_⟩⟩
  obtain ⟨rfl, c, hc, rfl⟩ := hy
  refine ⟨_, ?_, .inl ⟨rfl, .str _⟩⟩
  rw [List.getElem?_map, ← Array.getElem?_toList] at *
  rw [hc]
  rfl

/-! ### for -/
theorem js_for {body : List Stmt} {iter : Expr} {P : Post} (hp : PassesOwn (model X.prog X.w) X.A X.env X.xe) (h : JI X Γ M tg iter (fun xs M1 => ∃ Iv : Nat → Sl → Mem → Prop, Iv 0 Γ M1 ∧
      (∀ i x Γ2 M2, xs[i]? = some x → Iv i Γ2 M2 → JG X Γ2 M2 tg x (fun Γ3 M3 => JSs X Γ3 M3 body { P with nx := Iv (i + 1), ct := Iv (i + 1), bk := P.nx })) ∧ (∀ Γ2 M2, Iv xs.length Γ2 M2 → P.nx Γ2 M2)) (fun x M1 => P.ex x Γ M1)) (hc : X.calm = true := by rfl)
    (hs : ∀ x, foldedSetIterable iter X.env x = pure x := by intro _; rfl) : JS X Γ M (.For tg iter body [] pos) P := fun B Hn H σ S De ok => by
  refine run_ps (ps_for hp hc pi_run pg_run pss_run hs) ?_
  refine h B Hn H σ S ok.air _ fun J xs M1 Hn1 H1 p S1 e1 G => ?_
  obtain ⟨Iv, i0, turn, fin⟩ := p
  refine ⟨fun i m σ' H' => m = xs.length - i ∧ i ≤ xs.length ∧ ∃ Γ2 M2 Hn2, Iv i Γ2 M2 ∧ SR X.K B M2 Γ2 Hn2 H' σ' ∧ Same Hn1 Hn2, ⟨xs.length, by simp, Nat.zero_le _, Γ, M1, Hn1, i0, S1, Same.refl _⟩, ?_⟩
  rintro i m σ' H' ⟨rfl, hi, Γ2, M2, Hn2, iv, S2, e2⟩
  by_cases hlt : i < xs.length
  · refine .inr ⟨G.go i Hn2 H' e2 S2.rep.sub hlt, fun σ3 H3 => ∃ Γ3 M3 Hn3, Iv (i + 1) Γ3 M3 ∧ SR X.K B M3 Γ3 Hn3 H3 σ3 ∧ Same Hn1 Hn3, fun σ3 H3 ⟨Γ3, M3, Hn3, iv, S3, e3⟩ => ⟨xs.length - (i + 1), by omega, rfl, hlt, Γ3, M3, Hn3, iv, S3, e3⟩, fun v H3 hy => ?_⟩
    obtain ⟨d, hd, hv⟩ := G.yld i Hn2 H' v H3 e2 S2.rep.sub hy hlt
    have tl := turn i d Γ2 M2 hd iv
    have run : ∀ Hn3, SR X.K B M2 Γ2 Hn3 H3 σ' → Same Hn1 Hn3 → Is X.K Hn3 v d → RunG X tg v σ' H3 fun σ2 H2 => RunSs X body σ2 H2 { De with nx := fun σ3 H3 => ∃ Γ3 M3 Hn3, Iv (i + 1) Γ3 M3 ∧ SR X.K B M3 Γ3 Hn3 H3 σ3 ∧ Same Hn1 Hn3, ct := fun σ3 H3 => ∃ Γ3 M3 Hn3, Iv (i + 1) Γ3 M3 ∧ SR X.K B M3 Γ3 Hn3 H3 σ3 ∧ Same Hn1 Hn3, bk := De.nx } := fun Hn3 S3 e3 rv => by
      refine tl B Hn3 H3 σ' v S3 rv _ fun Γ4 M4 Hn4 H4 σ4 p4 S4 e4 => ?_
      exact p4.run' S4 ⟨fun Γ5 M5 Hn5 H5 σ5 iv5 S5 e5 => ⟨Γ5, M5, Hn5, iv5, S5, (e3.trans e4).trans e5⟩, fun Γ5 M5 Hn5 H5 σ5 p5 S5 _ => ok.nx _ _ _ _ _ p5 S5, fun Γ5 M5 Hn5 H5 σ5 iv5 S5 e5 => ⟨Γ5, M5, Hn5, iv5, S5, (e3.trans e4).trans e5⟩, ok.rt, ok.ex⟩
    rcases hv with ⟨rfl, rv⟩ | ⟨t, o, ht, rfl, rv⟩
    · exact run Hn2 S2 e2 rv
    · exact run _ (S2.alloc ht) (e2.trans (same_upd (S2.rep.nn ht))) rv
  · have e : i = xs.length := by omega
    subst e
    exact .inl ⟨G.stop Hn2 H' e2 S2.rep.sub, ok.nx _ _ _ _ _ (fin Γ2 M2 iv) S2⟩
end
end DL
end

section
set_option Elab.async false
set_option linter.all false
set_option maxRecDepth 100000
set_option maxHeartbeats 4000000
/-! List displays with a for in them; zip. -/
namespace DL
open PySem PySem.Spec PyProof.Rows L2

def setS (σ : L2.St) : List Nat → List V → L2.St
  | i :: is, v :: vs => setS (σ.set i (some v)) is vs
  | _, _ => σ
def setD (Γ : Sl) : List Nat → List D → Sl
  | i :: is, v :: vs => setD (Γ.set i (some v)) is vs
  | _, _ => Γ
def wipeD (Γ : Sl) : List Nat → Sl
  | [] => Γ
  | i :: is => (wipeD Γ is).set i none
theorem setS_length : ∀ (is : List Nat) (σ : L2.St) (vs : List V), (setS σ is vs).length = σ.length
  | [], σ, vs => rfl
  | i :: is, σ, [] => rfl
  | i :: is, σ, v :: vs => by
    unfold setS
    rw [setS_length is, List.length_set]
theorem wipe_get {σ : L2.St} {j : Nat} : ∀ {vs : List Nat}, j ∉ vs → (wipe σ vs)[j]? = σ[j]?
  | [], _ => rfl
  | v :: vs, h => by
    unfold wipe
    rw [List.getElem?_set_ne (fun e => h (by rw [e]; exact List.mem_cons_self)), wipe_get fun m => h (List.mem_cons_of_mem _ m)]
theorem wipe_own {σ : L2.St} {j : Nat} : ∀ {vs : List Nat}, j ∈ vs → j < σ.length → (wipe σ vs)[j]? = some none
  | v :: vs, h, hj => by
    unfold wipe
    by_cases e : v = j
    · subst e
      rw [List.getElem?_set_self (by rw [wipe_length]; exact hj)]
    · rw [List.getElem?_set_ne e]
      exact wipe_own (List.mem_of_ne_of_mem (fun q => e q.symm) h) hj
theorem wipe_eq {σ τ : L2.St} {vs : List Nat} (hl : σ.length = τ.length) (h : ∀ j, j ∉ vs → σ[j]? = τ[j]?) : wipe σ vs = wipe τ vs := by
  refine List.ext_getElem? fun j => ?_
  by_cases hj : j ∈ vs
  · by_cases hlt : j < σ.length
    · rw [wipe_own hj hlt, wipe_own hj (by omega)]
    · rw [List.getElem?_eq_none (by rw [wipe_length]; omega), List.getElem?_eq_none (by rw [wipe_length]; omega)]
  · rw [wipe_get hj, wipe_get hj, h j hj]
theorem setS_get {j : Nat} : ∀ {is : List Nat} {σ : L2.St} {vs : List V}, j ∉ is → (setS σ is vs)[j]? = σ[j]?
  | [], σ, vs, _ => rfl
  | i :: is, σ, [], _ => rfl
  | i :: is, σ, v :: vs, h => by
    unfold setS
    rw [setS_get fun m => h (List.mem_cons_of_mem _ m), List.getElem?_set_ne fun e => h (by rw [e]; exact List.mem_cons_self)]
theorem wipe_set {σ : L2.St} {vs is : List Nat} {ws : List V} (h : ∀ i ∈ is, i ∈ vs) : wipe (setS (wipe σ vs) is ws) vs = wipe σ vs := by
  refine wipe_eq (by rw [setS_length, wipe_length]) fun j hj => ?_
  rw [setS_get fun m => hj (h j m), wipe_get hj]
theorem wipeD_length (Γ : Sl) : ∀ vs : List Nat, (wipeD Γ vs).length = Γ.length
  | [] => rfl
  | v :: vs => by
    unfold wipeD
    rw [List.length_set, wipeD_length Γ vs]
theorem wipeD_get {Γ : Sl} {j : Nat} {d : D} : ∀ {vs : List Nat}, (wipeD Γ vs)[j]? = some (some d) → Γ[j]? = some (some d) ∧ j ∉ vs
  | [], h => ⟨h, by simp⟩
  | v :: vs, h => by
    unfold wipeD at h
    by_cases e : v = j
    · subst e
      by_cases hl : v < (wipeD Γ vs).length
      · rw [List.getElem?_set_self hl] at h
        cases h
      · rw [List.getElem?_eq_none (by rw [List.length_set]; omega)] at h
        cases h
    · rw [List.getElem?_set_ne e] at h
      obtain ⟨h1, h2⟩ := wipeD_get h
      exact ⟨h1, fun m => by
        rcases List.mem_cons.mp m with q | q
        · exact e q.symm
        · exact h2 q⟩
theorem SR.wiped {K : PySem.W.Frag} {B : Bas} {M : Mem} {Γ : Sl} {Hn H : Hp} {σ : L2.St} (S : SR K B M Γ Hn H σ) (vs : List Nat) : SR K B M (wipeD Γ vs) Hn H (wipe σ vs) := S.slots fun i d e => by
  obtain ⟨h1, h2⟩ := wipeD_get e
  rw [wipe_get h2]
  exact S.sl i d h1
theorem SR.setAll {K : PySem.W.Frag} {B : Bas} {M : Mem} {Hn H : Hp} : ∀ {is : List Nat} {ws : List V} {ds : List D} {Γ : Sl} {σ : L2.St}, SR K B M Γ Hn H σ → IsA K Hn ws ds → (∀ i ∈ is, i < σ.length) → SR K B M (setD Γ is ds) Hn H (setS σ is ws)
  | [], _, _, _, _, S, _, _ => S
  | i :: is, _, _, _, _, S, .nil, _ => S
  | i :: is, _, _, Γ, σ, S, .cons r1 r2, h => by
    unfold setD setS
    refine SR.setAll (S.set (h i List.mem_cons_self) r1) r2 fun j hj => ?_
    rw [List.length_set]
    exact h j (List.mem_cons_of_mem _ hj)
/-- what no one names changes -/
theorem SR.updH {K : PySem.W.Frag} {B : Bas} {M : Mem} {Γ : Sl} {Hn H : Hp} {σ : L2.St} {a : Addr} {o : HO} (S : SR K B M Γ Hn H σ) (hn : Hn a = Option.none) (hm : a ∉ M.map (·.1)) (hb : B.H a = Option.none) (ho : ∀ xs, o ≠ .tup xs) : SR K B M Γ Hn (upd H a o) σ := by
  refine ⟨⟨fun b u e => ?_, fun p hp => ⟨(S.rep.cell p hp).1, (S.rep.cell p hp).2.mono (Same.refl _) (upd_ne fun e => hm (by rw [← e]; exact List.mem_map_of_mem hp))⟩, S.rep.nd⟩, ⟨S.step.nn, fun b u hb' e => ?_, fun b z => ?_, S.step.new, fun b xs e => ?_⟩, S.loc, S.pre, S.sl⟩
  · rw [upd_ne fun e' => by rw [e', hn] at e; cases e]
    exact S.rep.sub b u e
  · rw [upd_ne fun e' => by rw [e', hb] at e; cases e]
    exact S.step.keep b u hb' e
  · by_cases hq : b = a
    · intro q
      rw [hq, upd_same] at q
      cases q
    · rw [upd_ne hq]
      exact S.step.there b z
  · by_cases hq : b = a
    · rw [hq, upd_same] at e
      exact absurd (Option.some.inj e) (ho xs)
    · rw [upd_ne hq] at e
      exact S.step.nt b xs e
/-- what no one names becomes data -/
theorem SR.known {K : PySem.W.Frag} {B : Bas} {M : Mem} {Γ : Sl} {Hn H : Hp} {σ : L2.St} {a : Addr} {o : HO} (S : SR K B M Γ Hn H σ) (hn : Hn a = Option.none) (hm : a ∉ M.map (·.1)) (hb : B.H a = Option.none) (ho : H a = some o) : SR K B M Γ (upd Hn a o) H σ := by
  have sn := same_upd (o := o) hn
  refine ⟨⟨fun b u e => ?_, fun p hp => ⟨?_, (S.rep.cell p hp).2.mono sn rfl⟩, S.rep.nd⟩, ⟨S.step.nn.trans sn, S.step.keep, S.step.there, fun b e n => ?_, S.step.nt⟩, S.loc, S.pre, fun i d e => ?_⟩
  · by_cases hq : b = a
    · rw [hq, upd_same] at e
      rw [hq, ho, e]
    · rw [upd_ne hq] at e
      exact S.rep.sub b u e
  · rw [upd_ne fun e => hm (by rw [← e]; exact List.mem_map_of_mem hp)]
    exact (S.rep.cell p hp).1
  · by_cases hq : b = a
    · rw [hq]
      exact .inl hb
    · rw [upd_ne hq] at n
      exact S.step.new b e n
  · obtain ⟨v, h1, h2⟩ := S.sl i d e
    exact ⟨v, h1, h2.mono sn⟩

/-- a block's target: d falls into the slots is, as ds -/
def JC (X : Cx) (tg : Expr) (d : D) (is : List Nat) (ds : List D) : Prop :=
  ∀ Hn H σ v, Same Hn H → Is X.K Hn v d → ∃ ws, IsA X.K Hn ws ds ∧ ∀ Q : L2.St → Hp → Prop, Q (setS σ is ws) H → RunG X tg v σ H Q
def JCs (X : Cx) (ts : List Expr) (is : List Nat) : Prop := ∀ H σ (ws : List V), ws.length = is.length → ∀ Q : L2.St → Hp → Prop, Q (setS σ is ws) H → RunGs X ts ws σ H Q
theorem jc_name (i : Nat) {X : Cx} {x : Str} {d : D} {pos : Pos} (hN : X.N.Nodup) (hi : X.N[i]? = some x := by rfl) (hx : Loc X.env.scope x := by first | exact Or.inl rfl | exact Or.inr rfl)
    (hf : X.fn x = true ∨ X.env.scope.names.lookup x = some .local := by first | exact .inl rfl | exact .inr rfl | assumption) : JC X (.Name x pos) d [i] [d] := fun Hn H σ v e r =>
  ⟨[v], .cons r .nil, fun Q q pins s u I ru => (pg_name hN hi hx hf).run pins s σ H v u Q I ru q⟩
theorem jcs_nil {X : Cx} : JCs X [] [] := fun H σ ws hw Q q pins s us I ru => by
  cases ws with
  | nil => exact pgs_nil.run pins s σ H [] us Q I ru ⟨rfl, q⟩
  | cons => cases hw
theorem jcs_cons (i : Nat) {X : Cx} {x : Str} {pos : Pos} {ts : List Expr} {is : List Nat} (h : JCs X ts is) (hN : X.N.Nodup) (hi : X.N[i]? = some x := by rfl) (hx : Loc X.env.scope x := by first | exact Or.inl rfl | exact Or.inr rfl)
    (hf : X.fn x = true ∨ X.env.scope.names.lookup x = some .local := by first | exact .inl rfl | exact .inr rfl | assumption)
    (hs : (assignEach (.Name x pos :: ts) X.env).map (·.2) = assign (.Name x pos) X.env :: (assignEach ts X.env).map (·.2) := by rfl) : JCs X (.Name x pos :: ts) (i :: is) := fun H σ ws hw Q q pins s us I ru => by
  cases ws with
  | nil => cases hw
  | cons v ws => exact (pgs_cons (pg_name hN hi hx hf) pgs_run hs).run pins s σ H (v :: ws) us Q I ru ⟨v, ws, rfl, h H _ ws (by simpa using hw) Q q⟩
theorem jc_tup {X : Cx} {es : List Expr} {is : List Nat} {ds : List D} {k n : Nat} {pos : Pos} (h : JCs X es is) (hl : ds.length = n) (hi : is.length = n := by rfl) (hc : X.calm = true := by rfl) (hn : (assignEach es X.env).length = n := by rfl) (hst : (assignEach es X.env).findIdx? (·.1) = none := by rfl) : JC X (.Tuple es k pos) (.tup ds) is ds := fun Hn H σ v e r => by
  cases r with
  | @tup t ws _ ht r =>
    refine ⟨ws, r, fun Q q pins s u I ru => ?_⟩
    refine (pg_tup hc pgs_run hn hst).run pins s σ H _ u Q I ru ⟨t, ws, rfl, same_t e ht, by rw [r.length, hl], ?_⟩
    exact h H σ ws (by rw [r.length, hl, hi]) Q q

def RunTs (X : Cx) (ifs : List Expr) (σ : L2.St) (H : Hp) (Q : Bool → Hp → Prop) : Prop := ∀ pins s, Inv X pins σ H s →
  wpAny (model X.prog X.w) X.A (forIn ifs true fun c r => if r = true then do { let ok ← isTrue c X.env (eval c X.env); pure (ForInStep.yield ok) } else pure (ForInStep.yield r)) (TP X pins σ Q) X.xe s
def JTs (X : Cx) (Γ : Sl) (M : Mem) (es : List Expr) (Φ : Bool → Mem → Prop) (Ψ : XP) : Prop :=
  ∀ B Hn H σ, SR X.K B M Γ Hn H σ → Air X B Γ Hn σ Ψ → ∀ Q : Bool → Hp → Prop, (∀ b M' Hn' H', Φ b M' → SR X.K B M' Γ Hn' H' σ → Same Hn Hn' → Q b H') → RunTs X es σ H Q
theorem jts_nil {X : Cx} {Γ : Sl} {M : Mem} {Φ : Bool → Mem → Prop} {Ψ : XP} (h : Φ true M) : JTs X Γ M [] Φ Ψ := fun B Hn H σ S A Q q pins s I => pts_nil.run pins s σ H Q I (q _ _ _ _ h S (Same.refl _))
theorem jts_one {X : Cx} {Γ : Sl} {M : Mem} {c : Expr} {Φ : Bool → Mem → Prop} {Ψ : XP} (h : JT X Γ M c Φ Ψ) : JTs X Γ M [c] Φ Ψ := fun B Hn H σ S A Q q pins s I => (pts_one pt_run).run pins s σ H Q I (h B Hn H σ S A Q q)

/-- nothing leaves -/
abbrev noX : XP := fun _ _ => False
theorem air_no {X : Cx} {B : Bas} {Γ : Sl} {Hn : Hp} {σ : L2.St} : Air X B Γ Hn σ noX := fun _ _ _ _ _ _ h => h.elim
section
variable {X : Cx} {Γ : Sl} {M : Mem} {Ψ : XP} {elt tg iter : Expr} {ifs : List Expr} {scope : Scope} {pos spos : Pos}
abbrev Blks (X : Cx) (scope : Scope) (R : Cx → Prop) : Prop := ∀ (s : Shared) (H : Hp) (C : Addr) (cl : List (Str × Addr)) (fp : List Addr), R (X.blk s H scope (compEnvC scope cl C X.env) fp)
/-- what is asked of a list display over xs -/
def LcAsk (X : Cx) (Γ : Sl) (scope : Scope) (vs : List Nat) (tg : Expr) (ifs : List Expr) (elt : Expr) (Φ : D → Mem → Prop) (xs : List D) (M1 : Mem) : Prop :=
  ∃ Iv : Nat → List D → Mem → Prop, Iv 0 [] M1 ∧ (∀ acc M2, Iv xs.length acc M2 → Φ (.lst acc) M2) ∧ ∀ i x acc M2, xs[i]? = some x → Iv i acc M2 → acc.length ≤ 1000000 ∧ ∃ is ds, (∀ i ∈ is, i ∈ vs) ∧ Blks X scope (fun Y => JC Y tg x is ds) ∧
    Blks X scope fun Y => JTs Y (setD (wipeD Γ vs) is ds) M2 ifs (fun b M3 => if b = true then Blks X scope (fun Z => JE Z (setD (wipeD Γ vs) is ds) M3 elt (fun d M4 => Iv (i + 1) (acc ++ [d]) M4) noX) else Iv (i + 1) acc M3) noX
theorem lc_ask {vs : List Nat} (hvs : ∀ i ∈ vs, i < X.N.length) {Φ : D → Mem → Prop} (h : JI X Γ M tg iter (fun xs M1 => LcAsk X Γ scope vs tg ifs elt Φ xs M1) Ψ) {B : Bas} {Hn H : Hp} {σ : L2.St} (hσ : σ.length = X.N.length) (S : SR X.K B M Γ Hn H σ) (A : Air X B Γ Hn σ Ψ) {Q : VK}
    (q : ∀ v d M' Hn' H', Φ d M' → SR X.K B M' Γ Hn' H' σ → Same Hn Hn' → Is X.K Hn' v d → Q v H') :
    tLc (RunI X tg iter) (fun v σ H Q => Blks X scope fun Y => RunG Y tg v σ H Q) (fun σ H Q => Blks X scope fun Y => RunTs Y ifs σ H Q) (fun σ H Q => Blks X scope fun Y => RunE Y elt σ H Q) vs σ H Q := by
  refine h B Hn H σ S A _ fun J xs M1 Hn1 H1 p S1 e1 G => ?_
  obtain ⟨Iv, i0, fin, turn⟩ := p
  intro L hL
  -- the accumulated list at L, hidden
  refine ⟨fun i m H' => m = xs.length - i ∧ i ≤ xs.length ∧ ∃ acc ws M2 Hn2, Iv i acc M2 ∧ SR X.K B M2 Γ Hn2 H' σ ∧ Same Hn1 Hn2 ∧ H' L = some (.lst ws) ∧ IsA X.K Hn2 ws acc ∧ Hn2 L = none ∧ L ∉ M2.map (·.1), ⟨xs.length, by simp, Nat.zero_le _, [], [], M1, Hn1, i0, S1.allocH hL, Same.refl _, upd_same, .nil, S1.rep.nn hL, fun hm => ?_⟩, ?_⟩
  · obtain ⟨p, hp, e⟩ := List.mem_map.mp hm
    exact S1.rep.ne hp hL e
  · rintro i m H' ⟨rfl, hi, acc, ws, M2, Hn2, iv, S2, e2, h1, ra, hn2, hm2⟩
    have hB : B.H L = none := S1.old hL
    by_cases hlt : i < xs.length
    · refine .inr ⟨G.go i Hn2 H' e2 S2.rep.sub hlt, fun H3 => ∃ acc ws M2 Hn2, Iv (i + 1) acc M2 ∧ SR X.K B M2 Γ Hn2 H3 σ ∧ Same Hn1 Hn2 ∧ H3 L = some (.lst ws) ∧ IsA X.K Hn2 ws acc ∧ Hn2 L = none ∧ L ∉ M2.map (·.1), fun H3 ⟨acc, ws, M2, Hn2, z⟩ => ⟨xs.length - (i + 1), by omega, rfl, hlt, acc, ws, M2, Hn2, z⟩, fun v H3 hy => ?_⟩
      obtain ⟨d, hd, hv⟩ := G.yld i Hn2 H' v H3 e2 S2.rep.sub hy hlt
      obtain ⟨hal, is, ds, his, hjc, hjt⟩ := turn i d acc M2 hd iv
      have run : ∀ Hn3, SR X.K B M2 Γ Hn3 H3 σ → Same Hn1 Hn3 → Is X.K Hn3 v d → H3 L = some (.lst ws) → IsA X.K Hn3 ws acc → Hn3 L = none → (Blks X scope fun Y => RunG Y tg v (wipe σ vs) H3 fun σ2 H2 => wipe σ2 vs = wipe σ vs ∧ (Blks X scope fun Y => RunTs Y ifs σ2 H2 fun b H4 => if b = true then Blks X scope (fun Z => RunE Z elt σ2 H4 fun y H5 => ∃ acc, H5 L = some (.lst acc) ∧ acc.length < sizeLine ∧ ∃ acc' ws M2 Hn2, Iv (i + 1) acc' M2 ∧ SR X.K B M2 Γ Hn2 (upd H5 L (.lst (acc ++ [y]))) σ ∧ Same Hn1 Hn2 ∧ (upd H5 L (.lst (acc ++ [y]))) L = some (.lst ws) ∧ IsA X.K Hn2 ws acc' ∧ Hn2 L = none ∧ L ∉ M2.map (·.1)) else ∃ acc ws M2 Hn2, Iv (i + 1) acc M2 ∧ SR X.K B M2 Γ Hn2 H4 σ ∧ Same Hn1 Hn2 ∧ H4 L = some (.lst ws) ∧ IsA X.K Hn2 ws acc ∧ Hn2 L = none ∧ L ∉ M2.map (·.1))) := by
        intro Hn3 S3 e3 rv hL3 ra3 hn3 s0 H0 C0 cl0 fp0
        obtain ⟨us, ru, kg⟩ := hjc s0 H0 C0 cl0 fp0 Hn3 H3 (wipe σ vs) v S3.rep.sub rv
        refine kg _ ⟨wipe_set his, ?_⟩
        intro s1 H1' C1 cl1 fp1
        have hm3 : L ∉ M2.map (·.1) := hm2
        have Sb : SR X.K ⟨Hn3, H3, M2.map (·.1)⟩ M2 (setD (wipeD Γ vs) is ds) Hn3 H3 (setS (wipe σ vs) is us) := (S3.rebase.wiped vs).setAll ru fun j hj => by
          rw [wipe_length, hσ]
          exact hvs j (his j hj)
        -- out of the block again
        have out : ∀ {M4 : Mem} {Hn4 H4 : Hp} {Γ4 : Sl} {σ4 : L2.St}, SR X.K ⟨Hn3, H3, M2.map (·.1)⟩ M4 Γ4 Hn4 H4 σ4 → SR X.K B M4 Γ Hn4 H4 σ ∧ H4 L = some (.lst ws) ∧ Hn4 L = none ∧ L ∉ M4.map (·.1) := by
          intro M4 Hn4 H4 Γ4 σ4 S4
          refine ⟨(S3.back S4).slots fun j x e => ?_, S4.step.keep L _ hm3 hL3, ?_, fun hm => ?_⟩
          · obtain ⟨w, w1, w2⟩ := S3.sl j x e
            exact ⟨w, w1, w2.mono S4.step.nn⟩
          · cases q : Hn4 L with
            | none => rfl
            | some o =>
              have z : Fre H3 L := S4.step.new L hn3 (by rw [q]; simp)
              rcases z with z | ⟨xs, z⟩ <;> rw [hL3] at z <;> cases z
          · obtain ⟨p, hp, e⟩ := List.mem_map.mp hm
            rcases S4.loc p hp with z | z
            · exact hm3 (by rw [← e]; exact z)
            · have z' : H3 p.1 = Option.none := z
              rw [e, hL3] at z'
              cases z'
        refine hjt s1 H1' C1 cl1 fp1 _ Hn3 H3 _ Sb air_no _ fun b M4 Hn4 H4 p4 S4 e4 => ?_
        cases b with
        | true =>
          rw [if_pos rfl] at p4
          rw [if_pos rfl]
          intro s2 H2' C2 cl2 fp2
          refine p4 s2 H2' C2 cl2 fp2 _ Hn4 H4 _ S4 air_no _ fun y dy M5 Hn5 H5 p5 S5 e5 ry => ?_
          obtain ⟨S6, h6, n6, m6⟩ := out S5
          refine ⟨ws, h6, by rw [ra3.length, sizeLine_eq]; omega, acc ++ [dy], ws ++ [y], M5, Hn5, p5, S6.updH n6 m6 hB (fun _ e => by cases e), e3.trans (e4.trans e5), upd_same, (ra3.mono (e4.trans e5)).append (.cons ry .nil), n6, m6⟩
        | false =>
          rw [if_neg Bool.false_ne_true] at p4
          rw [if_neg Bool.false_ne_true]
          obtain ⟨S6, h6, n6, m6⟩ := out S4
          exact ⟨acc, ws, M4, Hn4, p4, S6, e3.trans e4, h6, ra3.mono e4, n6, m6⟩
      rcases hv with ⟨rfl, rv⟩ | ⟨t, o, ht, rfl, rv⟩
      · exact run Hn2 S2 e2 rv h1 ra hn2
      · have ne : L ≠ t := fun e => by rw [e, ht] at h1; cases h1
        have ht2 := S2.rep.nn ht
        exact run _ (S2.alloc ht) (e2.trans (same_upd ht2)) rv (by rw [upd_ne ne]; exact h1) (ra.mono (same_upd ht2)) (by rw [upd_ne ne]; exact hn2)
    · have e : i = xs.length := by omega
      subst e
      have sn := same_upd (o := .lst ws) hn2
      exact .inl ⟨G.stop Hn2 H' e2 S2.rep.sub, q _ _ M2 _ H' (fin acc M2 iv) (S2.known hn2 hm2 hB h1) ((e1.trans e2).trans sn) (.lst upd_same (ra.mono sn))⟩
theorem je_lc {own : List (Str × Nat)} {Φ : D → Mem → Prop} (hN : X.N.Nodup) (ok : BlkOk X.N X.env.scope scope own) (h : JI X Γ M tg iter (fun xs M1 => LcAsk X Γ scope (own.map (·.2)) tg ifs elt Φ xs M1) Ψ) (hc : X.calm = true := by rfl) (hs : ∀ x, foldedSetIterable iter X.env x = pure x := by intro _; rfl) : JE X Γ M (.ListComp elt [⟨tg, iter, ifs, 0⟩] scope pos) Φ Ψ := fun B Hn H σ S A Q q pins s I => by
  refine (pe_lc (g := fun v σ H Q => Blks X scope fun Y => RunG Y tg v σ H Q) (tt := fun σ H Q => Blks X scope fun Y => RunTs Y ifs σ H Q) (te := fun σ H Q => Blks X scope fun Y => RunE Y elt σ H Q) hc hN pi_run ok (fun s H C cl fp => ⟨fun pins s' σ H v u Q I r h => h s _ C cl fp pins s' u I r⟩) (fun s H C cl fp => ⟨fun pins s' σ H Q I h => h s _ C cl fp pins s' I⟩) (fun s H C cl fp => ⟨fun pins s' σ H Q I h => h s _ C cl fp pins s' I⟩) hs).run pins s σ H Q I ?_
  refine lc_ask (fun i hi => ?_) h I.len S A q
  obtain ⟨p, hp, rfl⟩ := List.mem_map.mp hi
  exact (List.getElem?_eq_some_iff.mp (ok.ix p hp)).1
/-- y = [..] -/
theorem js_setLc (i : Nat) {y : Str} {py : Pos} {own : List (Str × Nat)} {P : Post} (hN : X.N.Nodup) (ok : BlkOk X.N X.env.scope scope own) (h : JI X Γ M tg iter (fun xs M1 => LcAsk X Γ scope (own.map (·.2)) tg ifs elt (fun d M1 => P.nx (Γ.set i (some d)) M1) xs M1) (fun x M1 => P.ex x Γ M1))
    (hy : X.N[i]? = some y := by rfl) (hyl : X.env.scope.names.lookup y = some .local := by rfl) (hc : X.calm = true := by rfl) (hsw : swapsWith (.ListComp elt [⟨tg, iter, ifs, 0⟩] scope pos) (some (.Name y py)) spos.line X.env = pure true := by rfl) (hs : ∀ x, foldedSetIterable iter X.env x = pure x := by intro _; rfl) : JS X Γ M (.Assign [.Name y py] (.ListComp elt [⟨tg, iter, ifs, 0⟩] scope pos) spos) P := fun B Hn H σ S De K pins s I => by
  refine (ps_setLc (g := fun v σ H Q => Blks X scope fun Y => RunG Y tg v σ H Q) (tt := fun σ H Q => Blks X scope fun Y => RunTs Y ifs σ H Q) (te := fun σ H Q => Blks X scope fun Y => RunE Y elt σ H Q) hc hN hy hyl hsw pi_run ok (fun s H C cl fp => ⟨fun pins s' σ H v u Q I r h => h s _ C cl fp pins s' u I r⟩) (fun s H C cl fp => ⟨fun pins s' σ H Q I h => h s _ C cl fp pins s' I⟩) (fun s H C cl fp => ⟨fun pins s' σ H Q I h => h s _ C cl fp pins s' I⟩) hs).run pins s σ H De I ?_
  refine lc_ask (fun i hi => ?_) h I.len S K.air fun v d M1 Hn1 H1 p S1 e1 r1 => ?_
  · obtain ⟨p, hp, rfl⟩ := List.mem_map.mp hi
    exact (List.getElem?_eq_some_iff.mp (ok.ix p hp)).1
  · exact K.nx _ _ _ _ _ p (S1.set (len_of I hy) r1)
end

/-! ### zip -/
theorem walk_zipT {K : PySem.W.Frag} {a b : Addr} {xs ys : List V} : Walk (RZ.ItzT K a b) (min xs.length ys.length) (fun H => SqT K H a xs ∧ SqT K H b ys) (YPair (fun i => xs[i]?) (fun i => ys[i]?)) := by
  constructor
  · intro i H hi q
    have h1 : i < xs.length := by omega
    have h2 : i < ys.length := by omega
    exact ⟨xs, ys, _, _, q.1, q.2, List.getElem?_eq_getElem h1, List.getElem?_eq_getElem h2⟩
  · intro H q
    exact ⟨xs, ys, q.1, q.2, by omega⟩
  · intro i H v H' _ q y
    obtain ⟨t, x, z, h1, h2, h3, h4, h5⟩ := y
    exact ⟨t, x, z, h1, h2, h3, h4 xs q.1, h5 ys q.2⟩
theorem good_zip {K : PySem.W.Frag} {Hn : Hp} {J : It} {vs us : List V} {xs ys : List D} (hl : xs.length = ys.length) (G : Hp → Prop) (hG : ∀ Hn' H, Same Hn Hn' → Same Hn' H → G H) (W : Walk J (min vs.length us.length) G (YPair (fun i => vs[i]?) (fun i => us[i]?))) (r1 : IsA K Hn vs xs) (r2 : IsA K Hn us ys) : Good K Hn J (List.zipWith (fun x y => D.tup [x, y]) xs ys) := by
  have n1 := r1.length
  have n2 := r2.length
  refine ⟨fun i Hn' H e f hi => W.goes i H (by rw [List.length_zipWith] at hi; omega) (hG Hn' H e f), fun Hn' H e f => ?_, fun i Hn' H v H' e f hy hi => ?_⟩
  · have := W.stops H (hG Hn' H e f)
    rw [List.length_zipWith, ← n1, ← n2]
    exact this
  · rw [List.length_zipWith] at hi
    obtain ⟨t, x, y, rfl, ht, rfl, hx, hy⟩ := W.yields i H v H' (by omega) (hG Hn' H e f) hy
    obtain ⟨dx, h1, i1⟩ := r1.get' hx
    obtain ⟨dy, h2, i2⟩ := r2.get' hy
    refine ⟨.tup [dx, dy], ?_, .inr ⟨t, _, ht, rfl, ?_⟩⟩
    · rw [List.getElem?_zipWith, h1, h2]
    · have sn := same_upd (o := .tup [x, y]) (f.free ht)
      exact .tup (.inl upd_same) (.cons (i1.mono (e.trans sn)) (.cons (i2.mono (e.trans sn)) .nil))
section
variable {X : Cx} {Γ : Sl} {M : Mem} {Ψ : XP} {Φ : List D → Mem → Prop} {a b : Expr} {pos p tpos : Pos} {elts : List Expr} {kk : Nat}
theorem ji_zip (hm : X.mg "zip" = none) (h : JA X Γ M [a, b] (fun ds M1 => ∃ xs ys, (ds = [.lst xs, .lst ys] ∨ ds = [.tup xs, .tup ys]) ∧ xs.length = ys.length ∧ Φ (List.zipWith (fun x y => D.tup [x, y]) xs ys) M1) Ψ) (hg : Gl X "zip" := by rfl)
    (hs : starEach [a, b] X.env = (false, eval a X.env) :: starEach [b] X.env := by rfl) (hpl : (backTo pos (starEach [b] X.env)).any (·.1) = false := by rfl) : JI X Γ M (.Tuple elts kk tpos) (.Call (.Name "zip" p) [a, b] [] pos) Φ Ψ := fun B Hn H σ S A R q pins s I => by
  refine (RZ.pi_zipA hg hm pa_run hs hpl).run pins s σ H R I ?_
  refine h B Hn H σ S A _ fun vs ds M1 Hn1 H1 p S1 e1 r1 => ?_
  obtain ⟨xs, ys, p0, hl, p⟩ := p
  rcases p0 with rfl | rfl
  · obtain ⟨v1, v2, rfl, ra, rb⟩ := r1.two
    cases ra with
    | @lst t ws _ h1 ra =>
      cases rb with
      | @lst t2 us _ h2 rb =>
        refine ⟨t, t2, ws, us, rfl, .inl ⟨SqL.of (S1.rep.sub _ _ h1), SqL.of (S1.rep.sub _ _ h2), q _ _ _ _ _ p S1 e1 (good_zip hl (fun H => SqL X.K H t ws ∧ SqL X.K H t2 us) (fun Hn' H e f => ⟨SqL.of (f _ _ (e _ _ h1)), SqL.of (f _ _ (e _ _ h2))⟩) (walk_zip rfl) ra rb)⟩⟩
  · obtain ⟨v1, v2, rfl, ra, rb⟩ := r1.two
    cases ra with
    | @tup t ws _ h1 ra =>
      cases rb with
      | @tup t2 us _ h2 rb =>
        refine ⟨t, t2, ws, us, rfl, .inr ⟨same_t S1.rep.sub h1, same_t S1.rep.sub h2, q _ _ _ _ _ p S1 e1 (good_zip hl (fun H => SqT X.K H t ws ∧ SqT X.K H t2 us) (fun Hn' H e f => ⟨same_t (e.trans f) h1, same_t (e.trans f) h2⟩) walk_zipT ra rb)⟩⟩
end
end DL
end

section
set_option Elab.async false
set_option linter.all false
set_option maxRecDepth 100000
set_option maxHeartbeats 4000000
/-! Dict displays with a for in them, keys that are tuples. -/
namespace DL
open PySem PySem.Spec PyProof.Rows L2

/-- the new dict gets an item whose key is a tuple -/
theorem set_new {X : Cx} {ps : List (Addr × Obj)} {τ : L2.St} {G : Hp} {sh : Shared} {Ex : Value → Shared → Prop} {L q : Addr} {its : List (List Key × V)} {ky : List Key} {w : V} {r : Value} {Wn : Unit → Shared → Prop} (hu : X.A.units + 1 < cLine) (J : Inv X ps τ G sh)
    (at' : G L = some (.dT its)) (few : its.length < sizeLine) (aq : G q = some (.tup (ky.map kV))) (rw' : RelV w r) (k : ∀ sh', Inv X ps τ (upd G L (.dT (putK its ky w))) sh' → Wn () sh') : wpAny (model X.prog X.w) X.A (dictSet L (.ref q) r) Wn Ex sh := by
  obtain ⟨n1, n2, ys, pr, ok⟩ := dt_of J.hok at'
  have few' : ys.length ≤ sizeLine := (Paired.length pr) ▸ n1
  have few2 : (putK its ky w).length ≤ sizeLine := by
    have := length_putK its ky w
    omega
  refine wpAny_dictSet_heap (show X.A.units < cLine by omega) (key_of J.hok aq) ok (hsz := few') fun hp okn sm => k _ ?_
  obtain ⟨ob, es, ep, g1, g2, g3, g4, _, g6⟩ := okn
  have nw : ∀ (c : Addr) (zs : List V), G c = some (.tup zs) → upd G L (.dT (putK its ky w)) c = some (.tup zs) := fun c zs e => (upd_ne (ne_of e at' (fun z => nomatch z))).trans e
  exact d_write J (by rw [at']; exact True.intro) sm ⟨ob, g1⟩ ⟨few2, n2, _, (pr.put ky aq rw').keeps nw, ob, es, ep, g1, g2, g3, g4, g6⟩

/-- what is asked of {k: v for .. in ..}: D is where the dict comes to stand -/
def tDT (wi : TI) (tg : TG) (ts : TT) (ek ev : TE) (vs : List Nat) : TE := fun τ G Q => wi τ G fun J G1 => ∀ L, G1 L = none → ∃ W : Nat → Nat → Hp → Prop, (∃ n, W 0 n (upd G1 L (.dT []))) ∧ ∀ j n G, W j n G →
  (J.stop j G ∧ Q (.ref L) G) ∨ (J.go j G ∧ ∃ Nx : Hp → Prop, (∀ G', Nx G' → ∃ n', n' < n ∧ W (j + 1) n' G') ∧ ∀ x G', J.yld j G x G' → tg x (wipe τ vs) G' fun τ2 G2 => wipe τ2 vs = wipe τ vs ∧ ts τ2 G2 fun b G3 =>
    if b = true then ek τ2 G3 fun y G4 => ev τ2 G4 fun z G5 => ∃ its ky q, y = .ref q ∧ G5 q = some (.tup (ky.map kV)) ∧ G5 L = some (.dT its) ∧ its.length < sizeLine ∧ Nx (upd G5 L (.dT (putK its ky z))) else Nx G3)
section
variable {X : Cx} {sc : Scope} {kx vx tg it : Expr} {ifs : List Expr} {wi : TI} {g : TG} {tt : TT} {tk tv : TE}
theorem core_dT {ps : List (Addr × Obj)} {sh : Shared} {τ : L2.St} {G : Hp} {Q : VK} {own : List (Str × Nat)} {pos pos' : Pos} {use : Option (Value → Sem Unit)} {Wf : Value → Shared → Prop} (hu : X.A.units + 1 < cLine) (calm : X.calm = true) (nd : X.N.Nodup) (J : Inv X ps τ G sh) (hit : PI X tg it wi) (bk : BlkOk X.N X.env.scope sc own)
    (hg : Blks X sc fun Y => PG Y tg g) (ht : Blks X sc fun Y => PTs Y ifs tt) (hk : Blks X sc fun Y => PE Y kx tk) (hv : Blks X sc fun Y => PE Y vx tv) (fold : ∀ x, foldedSetIterable it X.env x = pure x) (ask : tDT wi g tt tk tv (own.map (·.2)) τ G Q)
    (fin : ∀ L C sh' m G', Inv X ps τ G' sh' → Q (.ref L) G' → sh'.heap.Ns C m → FpOk X ps G' C → compPost (model X.prog X.w) X.A X.xe use Wf (.ref L) C (.ok .next) sh') :
    wpAny (model X.prog X.w) X.A (comprehension (.DictComp kx vx [⟨tg, it, ifs, 0⟩] sc pos) sc X.env pos' newDict false (eval it X.env) use) Wf X.xe sh := by
  have cells : ∀ y ∈ sc.names, y.2 = .free → ∃ c, X.env.cells.lookup y.1 = some c := by
    intro y hy e
    exact (bk.free y hy e).elim (fun k => J.ok.has _ (.inl k)) fun k => J.ok.has _ (.inr k)
  refine wpAny_comprehension_free (use := use) rfl fold (closure_ok cells) bk.kind (fun y hy e => (bk.uniq y hy).trans (congrArg some e)) ?_
  refine thn (hit.run ps sh τ G _ J ask) fun v1 s1 k1 => thn k1 fun v2 s2 k2 => ?_
  obtain ⟨i, fp, tn, It', G2, rfl, J2, T, t2, f2, more⟩ := k2
  refine wpAny_newObj_type (newEnv_comp ?_)
  obtain ⟨L, hL⟩ : ∃ L, s2.heap.objs.size = L := ⟨_, rfl⟩
  rw [hL]
  have free : G2 L = none := J2.hok.fresh (Nat.le_of_eq hL)
  obtain ⟨W, ⟨n0, w0⟩, turns⟩ := more L free
  obtain ⟨s3, e3⟩ : ∃ s3 : Shared, ({ s2 with heap := s2.heap.push { cls := .type "dict", data := .dict #[] } } : Shared) = s3 := ⟨_, rfl⟩
  rw [e3]
  have J3 : Inv X ps τ (upd G2 L (.dT [])) s3 := by
    subst e3
    refine J2.laid (t' := s2.toks) (fun b o q => Heap.get?_push_of_some _ q) (Nat.le_of_eq hL) (hL ▸ ?_)
    exact dt_empty s2.heap J2.big
  have hp3 : s3.heap = s2.heap.push { cls := .type "dict", data := .dict #[] } := e3 ▸ rfl
  have below : ∀ b ∈ fp, b < s2.heap.objs.size := fun b hb => (T.obj _ _ t2 b hb).elim fun o q => Heap.lt_size q.1
  have f3 : ∀ b ∈ fp, FpOk X ps (upd G2 L (.dT [])) b ∧ b < s3.heap.objs.size := by
    intro b hb
    have lt := below b hb
    have up : b < s3.heap.objs.size := by
      rw [hp3, Heap.size_push]
      exact Nat.lt_succ_of_lt lt
    refine ⟨⟨(upd_ne (Nat.ne_of_lt (hL ▸ lt))).trans (f2 b hb).1, (f2 b hb).2⟩, up⟩
  have t3 : tn 0 s3.heap := T.keep _ _ _ t2 fun b _ o q => hp3 ▸ Heap.get?_push_of_some _ q
  have J4 := block_start J3 bk nd f3
  obtain ⟨C, hC⟩ : ∃ C, s3.heap.objs.size = C := ⟨_, rfl⟩
  obtain ⟨ce, hce⟩ : ∃ ce, compEnvC sc (cellsFrom (s3.heap.objs.size + 1) sc.names (cloFrom X.env.cells sc.names [])) s3.heap.objs.size X.env = ce := ⟨_, rfl⟩
  obtain ⟨G3, hG3⟩ : ∃ G3, upd G2 L (.dT []) = G3 := ⟨_, rfl⟩
  have qg := hg s3 G3 s3.heap.objs.size (cellsFrom (s3.heap.objs.size + 1) sc.names (cloFrom X.env.cells sc.names [])) fp
  have qt := ht s3 G3 s3.heap.objs.size (cellsFrom (s3.heap.objs.size + 1) sc.names (cloFrom X.env.cells sc.names [])) fp
  have qk := hk s3 G3 s3.heap.objs.size (cellsFrom (s3.heap.objs.size + 1) sc.names (cloFrom X.env.cells sc.names [])) fp
  have qv := hv s3 G3 s3.heap.objs.size (cellsFrom (s3.heap.objs.size + 1) sc.names (cloFrom X.env.cells sc.names [])) fp
  show codeAny _ _ (.compStart (.DictComp kx vx [⟨tg, it, ifs, 0⟩] sc pos) 0 (.ref i) (.ref L) (compEnvC sc (cellsFrom (s3.heap.objs.size + 1) sc.names (cloFrom X.env.cells sc.names [])) s3.heap.objs.size X.env)) (compPost (model X.prog X.w) X.A X.xe use Wf (.ref L) s3.heap.objs.size) { s3 with heap := pushCells (s3.heap.push { cls := .type "dict", data := .dict #[] }) sc.names }
  rw [hG3] at J3 J4 f3 w0
  rw [hce] at J4 qg qt qk qv ⊢
  have loc : ce.locals = C := by rw [← hce, ← hC]; rfl
  obtain ⟨s4, e4⟩ : ∃ s4 : Shared, ({ s3 with heap := pushCells (s3.heap.push { cls := .type "dict", data := .dict #[] }) sc.names } : Shared) = s4 := ⟨_, rfl⟩
  rw [e4] at J4 ⊢
  have t4 : tn 0 s4.heap := T.keep _ _ _ t3 fun b _ o q => e4 ▸ pushCells_keeps _ _ _ _ (Heap.get?_push_of_some _ q)
  have none3 : ∀ b ∈ fp, G3 b = none := fun b hb => (f3 b hb).1.1
  have foot : ∀ (τ' : L2.St) (G' : Hp) (s' : Shared), Inv (X.blk s3 G3 sc ce fp) [] τ' G' s' → (∀ b ∈ fp, G' b = none) → ∀ b ∈ fp, FpOk (X.blk s3 G3 sc ce fp) [] G' b := by
    intro τ' G' s' J' nn b hb
    have ex := J'.ok.exf b hb
    refine ⟨nn b hb, ex.1, J'.ok.exfs b hb, .inl hb, fun x c e => ex.2 x c e, fun p hp => ?_⟩
    cases hp
  have lp : codeAny (model X.prog X.w) X.A (.compLoop (.DictComp kx vx [⟨tg, it, ifs, 0⟩] sc pos) 0 (.ref i) (.ref L) ce) (compPost (model X.prog X.w) X.A X.xe use Wf (.ref L) s3.heap.objs.size) s4 := by
    refine compLoop_anyD (fun n s' => ∃ j G', Inv (X.blk s3 G3 sc ce fp) [] (wipe τ (own.map (·.2))) G' s' ∧ tn j s'.heap ∧ (∀ b ∈ fp, G' b = none) ∧ W j n G') ?_ n0 ⟨0, G3, J4, t4, none3, w0⟩
    rintro n s5 ⟨j, G5, J5, t5, none5, w5⟩
    rcases turns j n G5 w5 with ⟨over, last⟩ | ⟨go, Nx, goes, step⟩
    · refine thnF (T.done (X.blk s3 G3 sc ce fp) rfl rfl rfl calm j [] s5 _ G5 (fun _ _ => False) J5 (foot _ _ _ J5 none5) t5 over) ?_
      rintro r s6 ⟨rfl, J6⟩
      have J7 : Inv X ps τ G5 s6 := J3.call' (ch := fp) J6.os J6.base J6.hok J6.bare fun b hb =>
        have z := (f3 b hb).1.2
        ⟨z.2.2.1, z.1, z.2.2.2.1, z.2.2.2.2⟩
      have z : G5 ce.locals = none := J6.free
      rw [loc, ← hC] at z
      obtain ⟨m, hm, _⟩ := J6.loc
      have hm : s6.heap.Ns ce.locals m := hm
      rw [loc, ← hC] at hm
      exact fin L _ s6 m G5 J7 last hm (J3.fpOk (Nat.le_refl _) z)
    · refine thnF (T.item (X.blk s3 G3 sc ce fp) rfl rfl rfl calm j [] s5 _ G5 (fun _ _ => False) J5 (foot _ _ _ J5 none5) t5 go) ?_
      rintro r s6 ⟨u, rfl, k6⟩
      refine thnF k6 ?_
      rintro _ s7 ⟨x, G7, J7, r7, y7, t7, none7⟩
      have J7' := J7.pinned (foot _ _ _ J7 none7) (T.obj _ _ t7)
      refine thnF (qg.run _ s7 _ G7 x u _ J7' r7 (step x G7 y7)) ?_
      rintro _ s8 ⟨τ8, G8, J8, w8, q8⟩
      refine thnF (qt.run _ s8 τ8 G8 _ J8 q8) ?_
      rintro b s9 ⟨G9, J9, q9⟩
      have close : ∀ (s' : Shared) (G' : Hp), Inv (X.blk s3 G3 sc ce fp) ([] ++ pinsAt fp s7.heap) τ8 G' s' → Nx G' → ∃ m, m < n ∧ ∃ j G', Inv (X.blk s3 G3 sc ce fp) [] (wipe τ (own.map (·.2))) G' s' ∧ tn j s'.heap ∧ (∀ b ∈ fp, G' b = none) ∧ W j m G' := by
        intro s' G' J' nx
        obtain ⟨n', lt, w'⟩ := goes G' nx
        have pin : ∀ b ∈ fp, ∀ o, s7.heap.get? b = some o → s'.heap.get? b = some o ∧ G' b = none := fun b hb o e => by
          have z := J'.pin (b, o) (List.mem_append_right _ (List.mem_append_right _ (mem_pinsAt hb e)))
          exact ⟨z.1, z.2.1⟩
        have same : (wipe τ (own.map (·.2))).length = τ8.length := by
          rw [← w8]
          exact wipe_length τ8 _
        refine ⟨n', lt, j + 1, G', (J'.unpinned (pins := [])).weak same fun j v e => (wipe_some (w8 ▸ e)).1, ?_, ?_, w'⟩
        · exact T.keep _ _ _ t7 fun b hb o e => (pin b hb o e).1
        · intro b hb
          obtain ⟨o, e, _⟩ := T.obj _ _ t7 b hb
          exact (pin b hb o e).2
      by_cases hb : b = true
      · rw [if_pos hb] at q9 ⊢
        refine thnF (qk.run _ s9 τ8 G9 _ J9 q9) ?_
        rintro y s10 ⟨yk, G10, J10, r10, q10⟩
        refine thnF (qv.run _ s10 τ8 G10 _ J10 q10) ?_
        rintro z s11 ⟨yv, G11, J11, r11, its, ky, q, rfl, aq, aL, few, nx⟩
        cases (show y = Value.ref q from r10)
        exact set_new (X := X.blk s3 G3 sc ce fp) hu J11 aL few aq r11 fun s12 J12 => close s12 _ J12 nx
      · rw [if_neg hb] at q9 ⊢
        exact close s9 G9 J9 q9
  exact codeAny_compStart_dict lp (T.self X.A 0 _ _ _ t4 lp)
theorem pe_dT {own : List (Str × Nat)} {pos : Pos} (hu : X.A.units + 1 < cLine) (calm : X.calm = true) (nd : X.N.Nodup) (hit : PI X tg it wi) (bk : BlkOk X.N X.env.scope sc own) (hg : Blks X sc fun Y => PG Y tg g) (ht : Blks X sc fun Y => PTs Y ifs tt) (hk : Blks X sc fun Y => PE Y kx tk) (hv : Blks X sc fun Y => PE Y vx tv)
    (fold : ∀ x, foldedSetIterable it X.env x = pure x := by intro _; rfl) : PE X (.DictComp kx vx [⟨tg, it, ifs, 0⟩] sc pos) (tDT wi g tt tk tv (own.map (·.2))) := by
  constructor
  intro ps sh τ G Q J ask
  rw [arm_eval_DictComp]
  refine core_dT hu calm nd J hit bk hg ht hk hv fold ask fun L C sh' m G' J' q nm f => ⟨m, nm, fun hp sb => ?_⟩
  obtain ⟨z0, z1, z2, z3, z4, z5⟩ := f
  have J2 := J'.turned (t' := sh'.toks) (fun b o hb e => (sb.2 b hb).trans e) z0 z1 z3 z4 z5
  exact ⟨.ref L, G', J2, rfl, q⟩
end

section
variable {X : Cx} {Γ : Sl} {M : Mem} {Ψ : XP} {kx vx tg iter : Expr} {ifs : List Expr} {scope : Scope} {pos spos : Pos}
/-- what is asked of {k: v for tg in xs} -/
def DcAsk (X : Cx) (Γ : Sl) (scope : Scope) (vs : List Nat) (tg : Expr) (ifs : List Expr) (kx vx : Expr) (Φ : D → Mem → Prop) (xs : List D) (M1 : Mem) : Prop :=
  ∃ Iv : Nat → List (D × D) → Mem → Prop, Iv 0 [] M1 ∧ (∀ acc M2, Iv xs.length acc M2 → Φ (.dT acc) M2) ∧ ∀ i x acc M2, xs[i]? = some x → Iv i acc M2 → acc.length ≤ 1000000 ∧ ∃ is ds, (∀ i ∈ is, i ∈ vs) ∧ Blks X scope (fun Y => JC Y tg x is ds) ∧
    Blks X scope fun Y => JTs Y (setD (wipeD Γ vs) is ds) M2 ifs (fun b M3 => if b = true then Blks X scope (fun Z => JE Z (setD (wipeD Γ vs) is ds) M3 kx (fun dk M4 => ∃ k, dk = tkD k ∧ k ≠ [] ∧ Blks X scope fun Z' => JE Z' (setD (wipeD Γ vs) is ds) M4 vx (fun d M5 => Iv (i + 1) (ptD acc dk d) M5) noX) noX) else Iv (i + 1) acc M3) noX
theorem dc_ask {vs : List Nat} (hvs : ∀ i ∈ vs, i < X.N.length) {Φ : D → Mem → Prop} (h : JI X Γ M tg iter (fun xs M1 => DcAsk X Γ scope vs tg ifs kx vx Φ xs M1) Ψ) {B : Bas} {Hn H : Hp} {σ : L2.St} (hσ : σ.length = X.N.length) (S : SR X.K B M Γ Hn H σ) (A : Air X B Γ Hn σ Ψ) {Q : VK}
    (q : ∀ v d M' Hn' H', Φ d M' → SR X.K B M' Γ Hn' H' σ → Same Hn Hn' → Is X.K Hn' v d → Q v H') :
    tDT (RunI X tg iter) (fun v σ H Q => Blks X scope fun Y => RunG Y tg v σ H Q) (fun σ H Q => Blks X scope fun Y => RunTs Y ifs σ H Q) (fun σ H Q => Blks X scope fun Y => RunE Y kx σ H Q) (fun σ H Q => Blks X scope fun Y => RunE Y vx σ H Q) vs σ H Q := by
  refine h B Hn H σ S A _ fun J xs M1 Hn1 H1 p S1 e1 G => ?_
  obtain ⟨Iv, i0, fin, turn⟩ := p
  intro L hL
  refine ⟨fun i m H' => m = xs.length - i ∧ i ≤ xs.length ∧ ∃ acc ws M2 Hn2, Iv i acc M2 ∧ SR X.K B M2 Γ Hn2 H' σ ∧ Same Hn1 Hn2 ∧ H' L = some (.dT ws) ∧ IsT X.K Hn2 ws acc ∧ Hn2 L = none ∧ L ∉ M2.map (·.1), ⟨xs.length, by simp, Nat.zero_le _, [], [], M1, Hn1, i0, S1.allocH hL, Same.refl _, upd_same, .nil, S1.rep.nn hL, fun hm => ?_⟩, ?_⟩
  · obtain ⟨p, hp, e⟩ := List.mem_map.mp hm
    exact S1.rep.ne hp hL e
  · rintro i m H' ⟨rfl, hi, acc, ws, M2, Hn2, iv, S2, e2, h1, ra, hn2, hm2⟩
    have hB : B.H L = none := S1.old hL
    by_cases hlt : i < xs.length
    · refine .inr ⟨G.go i Hn2 H' e2 S2.rep.sub hlt, fun H3 => ∃ acc ws M2 Hn2, Iv (i + 1) acc M2 ∧ SR X.K B M2 Γ Hn2 H3 σ ∧ Same Hn1 Hn2 ∧ H3 L = some (.dT ws) ∧ IsT X.K Hn2 ws acc ∧ Hn2 L = none ∧ L ∉ M2.map (·.1), fun H3 ⟨acc, ws, M2, Hn2, z⟩ => ⟨xs.length - (i + 1), by omega, rfl, hlt, acc, ws, M2, Hn2, z⟩, fun v H3 hy => ?_⟩
      obtain ⟨d, hd, hv⟩ := G.yld i Hn2 H' v H3 e2 S2.rep.sub hy hlt
      obtain ⟨hal, is, ds, his, hjc, hjt⟩ := turn i d acc M2 hd iv
      have run : ∀ Hn3, SR X.K B M2 Γ Hn3 H3 σ → Same Hn1 Hn3 → Is X.K Hn3 v d → H3 L = some (.dT ws) → IsT X.K Hn3 ws acc → Hn3 L = none → (Blks X scope fun Y => RunG Y tg v (wipe σ vs) H3 fun σ2 H2 => wipe σ2 vs = wipe σ vs ∧ (Blks X scope fun Y => RunTs Y ifs σ2 H2 fun b H4 => if b = true then Blks X scope (fun Z => RunE Z kx σ2 H4 fun y H4' => Blks X scope fun Z' => RunE Z' vx σ2 H4' fun z H5 => ∃ its ky q, y = .ref q ∧ H5 q = some (.tup (ky.map kV)) ∧ H5 L = some (.dT its) ∧ its.length < sizeLine ∧ ∃ acc' ws M2 Hn2, Iv (i + 1) acc' M2 ∧ SR X.K B M2 Γ Hn2 (upd H5 L (.dT (putK its ky z))) σ ∧ Same Hn1 Hn2 ∧ (upd H5 L (.dT (putK its ky z))) L = some (.dT ws) ∧ IsT X.K Hn2 ws acc' ∧ Hn2 L = none ∧ L ∉ M2.map (·.1)) else ∃ acc ws M2 Hn2, Iv (i + 1) acc M2 ∧ SR X.K B M2 Γ Hn2 H4 σ ∧ Same Hn1 Hn2 ∧ H4 L = some (.dT ws) ∧ IsT X.K Hn2 ws acc ∧ Hn2 L = none ∧ L ∉ M2.map (·.1))) := by
        intro Hn3 S3 e3 rv hL3 ra3 hn3 s0 H0 C0 cl0 fp0
        obtain ⟨us, ru, kg⟩ := hjc s0 H0 C0 cl0 fp0 Hn3 H3 (wipe σ vs) v S3.rep.sub rv
        refine kg _ ⟨wipe_set his, ?_⟩
        intro s1 H1' C1 cl1 fp1
        have hm3 : L ∉ M2.map (·.1) := hm2
        have Sb : SR X.K ⟨Hn3, H3, M2.map (·.1)⟩ M2 (setD (wipeD Γ vs) is ds) Hn3 H3 (setS (wipe σ vs) is us) := (S3.rebase.wiped vs).setAll ru fun j hj => by
          rw [wipe_length, hσ]
          exact hvs j (his j hj)
        have out : ∀ {M4 : Mem} {Hn4 H4 : Hp} {Γ4 : Sl} {σ4 : L2.St}, SR X.K ⟨Hn3, H3, M2.map (·.1)⟩ M4 Γ4 Hn4 H4 σ4 → SR X.K B M4 Γ Hn4 H4 σ ∧ H4 L = some (.dT ws) ∧ Hn4 L = none ∧ L ∉ M4.map (·.1) := by
          intro M4 Hn4 H4 Γ4 σ4 S4
          refine ⟨(S3.back S4).slots fun j x e => ?_, S4.step.keep L _ hm3 hL3, ?_, fun hm => ?_⟩
          · obtain ⟨w, w1, w2⟩ := S3.sl j x e
            exact ⟨w, w1, w2.mono S4.step.nn⟩
          · cases q : Hn4 L with
            | none => rfl
            | some o =>
              have z : Fre H3 L := S4.step.new L hn3 (by rw [q]; simp)
              rcases z with z | ⟨xs, z⟩ <;> rw [hL3] at z <;> cases z
          · obtain ⟨p, hp, e⟩ := List.mem_map.mp hm
            rcases S4.loc p hp with z | z
            · exact hm3 (by rw [← e]; exact z)
            · have z' : H3 p.1 = Option.none := z
              rw [e, hL3] at z'
              cases z'
        refine hjt s1 H1' C1 cl1 fp1 _ Hn3 H3 _ Sb air_no _ fun b M4 Hn4 H4 p4 S4 e4 => ?_
        cases b with
        | true =>
          rw [if_pos rfl] at p4
          rw [if_pos rfl]
          intro s2 H2' C2 cl2 fp2
          refine p4 s2 H2' C2 cl2 fp2 _ Hn4 H4 _ S4 air_no _ fun y dy M5 Hn5 H5 p5 S5 e5 ry => ?_
          obtain ⟨k, rfl, hk, p5⟩ := p5
          intro s3 H3' C3 cl3 fp3
          refine p5 s3 H3' C3 cl3 fp3 _ Hn5 H5 _ S5 air_no _ fun z dz M6 Hn6 H6 p6 S6 e6 rz => ?_
          obtain ⟨S7, h7, n7, m7⟩ := out S6
          obtain ⟨tb, rfl, htb⟩ := tk_of S6.rep.sub hk (ry.mono e6)
          have e3' := (e4.trans e5).trans e6
          refine ⟨ws, k, tb, rfl, htb, h7, by rw [ra3.length, sizeLine_eq]; omega, ptD acc (tkD k) dz, putK ws k z, M6, Hn6, p6, S7.updH n7 m7 hB (fun _ e => by cases e), e3.trans e3', upd_same, (ra3.mono e3').put rz k, n7, m7⟩
        | false =>
          rw [if_neg Bool.false_ne_true] at p4
          rw [if_neg Bool.false_ne_true]
          obtain ⟨S6, h6, n6, m6⟩ := out S4
          exact ⟨acc, ws, M4, Hn4, p4, S6, e3.trans e4, h6, ra3.mono e4, n6, m6⟩
      rcases hv with ⟨rfl, rv⟩ | ⟨t, o, ht, rfl, rv⟩
      · exact run Hn2 S2 e2 rv h1 ra hn2
      · have ne : L ≠ t := fun e => by rw [e, ht] at h1; cases h1
        have ht2 := S2.rep.nn ht
        exact run _ (S2.alloc ht) (e2.trans (same_upd ht2)) rv (by rw [upd_ne ne]; exact h1) (ra.mono (same_upd ht2)) (by rw [upd_ne ne]; exact hn2)
    · have e : i = xs.length := by omega
      subst e
      have sn := same_upd (o := .dT ws) hn2
      exact .inl ⟨G.stop Hn2 H' e2 S2.rep.sub, q _ _ M2 _ H' (fin acc M2 iv) (S2.known hn2 hm2 hB h1) ((e1.trans e2).trans sn) (.dT upd_same (ra.mono sn))⟩
theorem je_dc {own : List (Str × Nat)} {Φ : D → Mem → Prop} (hu : X.A.units + 1 < cLine) (hN : X.N.Nodup) (ok : BlkOk X.N X.env.scope scope own) (h : JI X Γ M tg iter (fun xs M1 => DcAsk X Γ scope (own.map (·.2)) tg ifs kx vx Φ xs M1) Ψ) (hc : X.calm = true := by rfl) (hs : ∀ x, foldedSetIterable iter X.env x = pure x := by intro _; rfl) : JE X Γ M (.DictComp kx vx [⟨tg, iter, ifs, 0⟩] scope pos) Φ Ψ := fun B Hn H σ S A Q q pins s I => by
  refine (pe_dT (g := fun v σ H Q => Blks X scope fun Y => RunG Y tg v σ H Q) (tt := fun σ H Q => Blks X scope fun Y => RunTs Y ifs σ H Q) (tk := fun σ H Q => Blks X scope fun Y => RunE Y kx σ H Q) (tv := fun σ H Q => Blks X scope fun Y => RunE Y vx σ H Q) hu hc hN pi_run ok (fun s H C cl fp => ⟨fun pins s' σ H v u Q I r h => h s _ C cl fp pins s' u I r⟩) (fun s H C cl fp => ⟨fun pins s' σ H Q I h => h s _ C cl fp pins s' I⟩) (fun s H C cl fp => ⟨fun pins s' σ H Q I h => h s _ C cl fp pins s' I⟩) (fun s H C cl fp => ⟨fun pins s' σ H Q I h => h s _ C cl fp pins s' I⟩) hs).run pins s σ H Q I ?_
  refine dc_ask (fun i hi => ?_) h I.len S A q
  obtain ⟨p, hp, rfl⟩ := List.mem_map.mp hi
  exact (List.getElem?_eq_some_iff.mp (ok.ix p hp)).1
end
end DL
end

section
set_option Elab.async false
set_option linter.all false
set_option maxRecDepth 100000
set_option maxHeartbeats 4000000
/-! Errors of the program's own classes: made, raised, caught, read. -/
namespace DL
open PySem PySem.Spec PyProof.Rows L2

/-- an error's own __init__ that stores its arguments, in this order, under these names -/
def spXi (C : Addr) (fs : List Str) : Sp := fun vs H Q _ => ∃ (a : Addr) (ws : List V), vs = .ref a :: ws ∧ ws.length = fs.length ∧ H a = some (exo a C none) ∧ ∀ dx, H dx = none → dx ≠ a → Q .non (upd (upd H dx (exd dx (fs.zip ws).reverse)) a (exo a C (some dx)))
structure GXc (P : Program) (w : World) (K : PySem.W.Frag) (mg : Str → Option Value) (base : Heap) (k : Nat) (x : Str) (C : Addr) (fs : List Str) : Prop where
  hm : mg x = some (.ref C)
  cls : OexC K C
  rd : XfC K C
  no : ∀ f ∈ fs, PySem.W.findIn K (.ref C) f = some none
  ex : ∃ (fI : Addr) (fd : FuncData) (ps : List Str), PySem.W.findIn K (.ref C) "__init__" = some (some (.ref fI)) ∧ PySem.W.typeIn K (.ref fI) = some (.type "function") ∧ FnOk P w K mg base (L2.CX P w) k fI fd ps (spXi C fs) ∧ Binds K fd ps []
theorem upd_swap {H : Hp} {a b : Addr} {o u : HO} (h : a ≠ b) : upd (upd H a o) b u = upd (upd H b u) a o := by
  funext c
  by_cases ha : c = a
  · rw [ha, upd_ne h, upd_same, upd_same]
  · by_cases hb : c = b
    · rw [hb, upd_same, upd_ne h.symm, upd_same]
    · rw [upd_ne hb, upd_ne ha, upd_ne ha, upd_ne hb]
theorem upd_over {H : Hp} {a : Addr} {o u : HO} : upd (upd H a o) a u = upd H a u := by
  funext c
  by_cases ha : c = a
  · rw [ha, upd_same, upd_same]
  · rw [upd_ne ha, upd_ne ha, upd_ne ha]
theorem del_upd {H : Hp} {a : Addr} {o : HO} (h : H a = none) : del (upd H a o) a = H := by
  funext c
  by_cases ha : c = a
  · rw [ha, del_same, h]
  · rw [del_ne ha, upd_ne ha]
theorem made_heap {H : Hp} {a d : Addr} {o1 o2 o3 o4 : HO} (h : H a = none) (hd : H d = none) (ne : d ≠ a) : upd (del (upd (upd (upd H a o1) d o2) a o3) a) d o4 = upd H d o4 := by
  rw [upd_swap (Ne.symm ne), upd_over, del_upd (by rw [upd_ne (Ne.symm ne)]; exact h), upd_over]
section
variable {K : PySem.W.Frag} {Hn : Hp}
theorem IsF.zip : ∀ {fs : List Str} {ws : List V} {ds : List D}, IsA K Hn ws ds → IsF K Hn (fs.zip ws) (fs.zip ds)
  | [], _, _, _ => .nil
  | _ :: _, _, _, .nil => .nil
  | f :: fs, _, _, .cons a b => .cons a (IsF.zip b)
theorem IsF.append : ∀ {fs : List (Str × V)} {ds : List (Str × D)} {gs : List (Str × V)} {es : List (Str × D)}, IsF K Hn fs ds → IsF K Hn gs es → IsF K Hn (fs ++ gs) (ds ++ es)
  | _, _, _, _, .nil, h => h
  | _, _, _, _, .cons a b, h => .cons a (IsF.append b h)
theorem IsF.reverse : ∀ {fs : List (Str × V)} {ds : List (Str × D)}, IsF K Hn fs ds → IsF K Hn fs.reverse ds.reverse
  | _, _, .nil => .nil
  | _, _, .cons a b => by
    rw [List.reverse_cons, List.reverse_cons]
    exact (IsF.reverse b).append (.cons a .nil)
end
section
variable {X : Cx} {Γ : Sl} {M : Mem} {P : Post} {e : Expr} {es : List Expr} {pos p pos' np : Pos} {k : Nat}
theorem passNo {E : XK} (h : ∀ c d H, ¬ E c d H) : Passes (L2.CX X.prog X.w) X E := fun _ _ _ _ _ _ _ ⟨_, _, H', c, d, _, _, _, _, _, _, _, z⟩ => (h c d H' z).elim
/-- raise C(e, ..) -/
theorem js_raise {x : Str} {C : Addr} {fs : List Str} (G : GXc X.prog X.w X.K X.mg X.base k x C fs) (hr : Room (k + 1) X.A) (h : JA X Γ M (e :: es) (fun ds M1 => ds.length = fs.length ∧ ds.length ≤ 900 ∧ P.ex (C, (fs.zip ds).reverse) Γ M1) (fun x M1 => P.ex x Γ M1)) (hc : X.calm = true := by rfl) (hg : Gl X x := by rfl) (hdb : (x == ("__debug__" : Str)) = false := by decide)
    (he : starEach (e :: es) X.env = (false, eval e X.env) :: starEach es X.env := by rfl) (hpl : (backTo pos (starEach es X.env)).any (·.1) = false := by rfl) : JS X Γ M (.Raise (some (.Call (.Name x p) (e :: es) [] pos)) none pos') P := fun B Hn H σ S De ok => by
  obtain ⟨fI, fd, ps, iC, tI, F, hb⟩ := G.ex
  refine run_ps (ps_raise hc takes_air (pmk_oex G.cls iC tI F hr hb .nil (passNo fun _ _ _ z => z) hg G.hm pa_run hdb he hpl)) ?_
  refine h B Hn H σ S ok.air _ fun vs ds M1 Hn1 H1 p S1 e1 r1 => ?_
  obtain ⟨hl, hz, p⟩ := p
  have n := r1.length
  refine ⟨by omega, fun a ha => ⟨a, vs, by rw [List.append_nil], by omega, upd_same, fun dx hdx hne => ?_⟩⟩
  have hdx1 : H1 dx = none := by rw [upd_ne hne] at hdx; exact hdx
  refine ⟨rfl, dx, _, upd_same, by rw [upd_ne hne, upd_same], hdx1, ?_⟩
  rw [made_heap ha hdx1 hne]
  have sn := same_upd (o := .xd (fs.zip vs).reverse) (S1.rep.nn hdx1)
  exact ok.ex (C, (fs.zip ds).reverse) Γ M1 _ _ σ (.ref C) (some dx) p (S1.alloc hdx1) ⟨rfl, .inr ⟨dx, _, rfl, upd_same, (IsF.zip (r1.mono sn)).reverse⟩⟩
end
/-- self.f = y, .. at two fields -/
theorem ok_xi2 {Pg : Program} {w : World} {K : PySem.W.Frag} {mg : Str → Option Value} {base : Heap} {C fI : Addr} {fd : FuncData} {x qual : Str} {st : Stmt} {a b f1 f2 : Str} {q1 q2 q3 q4 r1 r2 r3 r4 : Pos} (F : Fun K x qual st fI fd) (Sc : FnScope ["self", a, b] ["self", a, b] (defScope st)) (T : OexC K C) (h1 : PySem.W.findIn K (.ref C) f1 = some none) (h2 : PySem.W.findIn K (.ref C) f2 = some none)
    (hb : defBody st = [.Assign [.Attribute (.Name "self" q1) f1 q2] (.Name a q3) q4, .Assign [.Attribute (.Name "self" r1) f2 r2] (.Name b r3) r4]) (l0 : (defScope st).names.lookup ("self" : Str) = some NameKind.local) (l1 : (defScope st).names.lookup a = some NameKind.local) (l2 : (defScope st).names.lookup b = some NameKind.local)
    (d1 : (a == ("__debug__" : Str)) = false) (d2 : (b == ("__debug__" : Str)) = false) (c1 : (a == ("__classdict__" : Str)) = false) (c2 : (b == ("__classdict__" : Str)) = false)
    (s1 : ∀ env, swapsWith (.Name a q3) (some (.Attribute (.Name "self" q1) f1 q2)) q4.line env = pure false) (s2 : ∀ env, swapsWith (.Name b r3) (some (.Attribute (.Name "self" r1) f2 r2)) r4.line env = pure false) : FnOk Pg w K mg base (L2.CX Pg w) 1 fI fd ["self", a, b] (spXi C [f1, f2]) := by
  refine F.okX Sc (fun vs H Q E h => ?_) (fun cdv A outer s H vs Q E hr h => ?_)
  · obtain ⟨t, ws, rfl, hl, _⟩ := h
    match ws, hl with
    | [_, _], _ => rfl
  · obtain ⟨t, ws, rfl, hl, ht, q⟩ := h
    match ws, hl with
    | [u, v], _ =>
      rw [hb]
      refine ⟨_, pss_cons (ps_ost (pe_var (i := 0) rfl (Or.inl l0) (by decide) (by decide)) (pe_var (i := 1) rfl (Or.inl l1) d1 c1) (s1 _)) (pss_one (ps_ost (pe_var (i := 0) rfl (Or.inl l0) (by decide) (by decide)) (pe_var (i := 2) rfl (Or.inl l2) d2 c2) (s2 _))), ?_⟩
      refine ⟨_, rfl, _, rfl, t, C, rfl, T, h1, .inl ⟨ht, fun dx hdx hne => ?_⟩⟩
      refine ⟨_, rfl, _, rfl, t, C, rfl, T, h2, .inr ⟨dx, _, upd_same, by rw [upd_ne hne, upd_same], by show 1 ≤ 900; decide, ?_⟩⟩
      have z := q dx hdx hne
      rw [upd_swap (Ne.symm hne), upd_over]
      exact z
section
variable {X : Cx} {Γ : Sl} {M : Mem} {P : Post} {e : Expr} {es : List Expr} {pos p pos' np : Pos} {k : Nat}
theorem SR.unset {K : PySem.W.Frag} {B : Bas} {M : Mem} {Γ : Sl} {Hn H : Hp} {σ : L2.St} {i : Nat} (S : SR K B M Γ Hn H σ) : SR K B M (Γ.set i Option.none) Hn H (σ.set i Option.none) := S.slots fun j d e => by
  by_cases hj : i = j
  · subst hj
    by_cases hl : i < Γ.length
    · rw [List.getElem?_set_self hl] at e
      cases e
    · rw [List.getElem?_eq_none (by rw [List.length_set]; omega)] at e
      cases e
  · rw [List.getElem?_set_ne hj] at e
    rw [List.getElem?_set_ne hj]
    exact S.sl j d e
/-- what the suite of a handler owes: its slot i is empty behind it -/
abbrev Post.suite (P : Post) (i : Nat) : Post := { nx := fun Γ M => P.nx (Γ.set i none) M, bk := fun Γ M => P.bk (Γ.set i none) M, ct := fun Γ M => P.ct (Γ.set i none) M, rt := P.rt, ex := fun _ _ _ => False }
/-- try: body; except x as n: suite -/
theorem js_try_as (i : Nat) {x n : Str} {c : Value} {body suite : List Stmt} {b0 : Stmt} (hN : X.N.Nodup) (hc : Names X x c)
    (h : ∀ pn xe, PassesOwn (model X.prog X.w) X.A X.env xe → JSs (X.tr pn xe) Γ M body { P with ex := fun y Γ1 M1 => ∃ b, PySem.W.exmOne X.K (.ref y.1) c = some b ∧ (b = true → y.2 ≠ [] ∧ ∀ a dd oe pn', Zc (.ref y.1) (some dd) oe → (∃ vs, oe.data = .fields vs) → JSs (X.suite a ((a, oe) :: pn')) (Γ1.set i (some (.exc a dd y.1 y.2))) M1 (b0 :: suite) (P.suite i)) ∧ (b = false → P.ex y Γ1 M1) })
    (hs : X.stack = X.env :: X.outer := by rfl) (hf : X.env.frame = some X.env.locals := by rfl) (hi : X.N[i]? = some n := by rfl) (hln : X.env.kindOf n = some .local := by rfl) : JS X Γ M (.Try body [.ExceptHandler (some (.Name x np)) (some n) (b0 :: suite) pos'] [] [] pos) P := fun B Hn H σ S De ok => by
  refine run_ps (ps_try_as (i := i) (c := c) (tb := fun W De σ H => ∀ pn xe, Takes (X.tr pn xe) W → PassesOwn (model X.prog X.w) X.A X.env xe → RunSs (X.tr pn xe) body σ H De)
    (ts := fun a cls d De σ H => ∀ oe pn, Zc cls d oe → (∃ vs, oe.data = .fields vs) → RunSs (X.suite a ((a, oe) :: pn)) (b0 :: suite) σ H De) (Wout := fun cls d σ H => AirOk X cls d σ H) hs hf hN hi hln hc takes_air
    (fun W pn xe tk po => ⟨fun pins s σ H De I h => h pn xe tk po pins s I⟩) (fun a oe cls d pn hz hf => ⟨fun pins s σ H De I h => h oe pn hz hf pins s I⟩)) ?_
  intro pn xe tk po
  refine h pn xe po B Hn H σ S De ⟨ok.nx, ok.bk, ok.ct, ok.rt, fun y Γ1 M1 Hn1 H1 σ1 cls dd hy S1 ri => ?_⟩
  refine air_of tk ?_
  obtain ⟨b, hb, ht, hfa⟩ := hy
  obtain ⟨rfl, hd⟩ := ri
  refine ⟨b, hb, fun e a ha oe pn' hz hfs => ?_, fun e => ok.ex y Γ1 M1 Hn1 H1 σ1 _ dd (hfa e) S1 ⟨rfl, hd⟩⟩
  obtain ⟨hne, ht⟩ := ht e
  rcases hd with ⟨_, z⟩ | ⟨d, vs, rfl, hx, rf⟩
  · exact (hne z).elim
  · intro pins s I
    have hlen : i < σ1.length := by
      have := len_of I (x := n) hi
      rwa [List.length_set] at this
    exact ht a d oe pn' hz hfs B Hn1 H1 _ (S1.set hlen (.exc hx rf)) { nx := fun σ' H' => De.nx (σ'.set i none) H', rt := De.rt, bk := fun σ' H' => De.bk (σ'.set i none) H', ct := fun σ' H' => De.ct (σ'.set i none) H' } ⟨fun Γ2 M2 Hn2 H2 σ2 p S2 => ok.nx _ _ _ _ _ p S2.unset, fun Γ2 M2 Hn2 H2 σ2 p S2 => ok.bk _ _ _ _ _ p S2.unset, fun Γ2 M2 Hn2 H2 σ2 p S2 => ok.ct _ _ _ _ (σ2.set i none) p (S2.unset (i := i)), ok.rt, fun _ _ _ _ _ _ _ _ z => z.elim⟩ pins s I
/-- error.f, in the suite -/
theorem je_xf {a dd : Addr} {oe : Obj} {C : Addr} {pn : List (Addr × Obj)} {f : Str} {Φ : D → Mem → Prop} {Ψ : XP} (T : XfC X.K C) (hno : PySem.W.findIn X.K (.ref C) f = some none) (hz : Zc (.ref C) (some dd) oe) (hf : ∃ vs, oe.data = .fields vs)
    (h : JE (X.suite a ((a, oe) :: pn)) Γ M e (fun d M1 => ∃ fs y, d = .exc a dd C fs ∧ fs.lookup f = some y ∧ Φ y M1) Ψ) (hb : attributeBase e f X.env (eval e X.env) = eval e X.env := by rfl) : JE (X.suite a ((a, oe) :: pn)) Γ M (.Attribute e f pos) Φ Ψ := fun B Hn H σ S A Q q => by
  refine run_pe (pe_xf (X := X) (a := a) (C := C) (cls := .ref C) (d := some dd) T hno hz hf pe_run hb) ?_
  refine h B Hn H σ S A _ fun v d M1 Hn1 H1 p S1 e1 r1 => ?_
  obtain ⟨fs, y, rfl, hl, p⟩ := p
  cases r1 with
  | @exc _ _ _ gs _ hx rf =>
    obtain ⟨u, hu, ru⟩ := rf.get hl
    exact ⟨rfl, rfl, dd, gs, u, rfl, S1.rep.sub _ _ hx, hu, q _ _ _ _ _ p S1 e1 ru⟩
end
end DL
end

section
set_option Elab.async false
set_option linter.all false
set_option maxRecDepth 100000
set_option maxHeartbeats 4000000
/-! Small helpers of the walks. -/
namespace DL
open PySem PySem.Spec PyProof.Rows L2

/-- isinstance of what is no instance, as a Bool -/
def isT (m : String) (d : D) : Bool := match tyN d with
  | some n => n == m || (n == "bool" && m == "int")
  | none => false
theorem isT_of {m : String} {d : D} {n : String} (hm : m ∈ ["str", "int", "bool", "tuple", "list", "dict"]) (h : tyN d = some n) : kitB n m = some (isT m d) := by
  have key : ∀ m ∈ ["str", "int", "bool", "tuple", "list", "dict"], ∀ n ∈ ["NoneType", "bool", "int", "str", "tuple", "list", "dict"], kitB n m = some (n == m || (n == "bool" && m == "int")) := by decide +kernel
  unfold isT
  rw [h]
  refine key m hm n ?_
  cases d <;> simp [tyN] at h <;> subst h <;> decide
/-- the built-ins' names are no names of the module -/
structure Bn (mg : Str → Option Value) : Prop where
  isinstance : mg "isinstance" = none
  len : mg "len" = none
  all : mg "all" = none
  any : mg "any" = none
  range : mg "range" = none
  sorted : mg "sorted" = none
  zip : mg "zip" = none
  min : mg "min" = none
  str : mg "str" = none
  int : mg "int" = none
  bool : mg "bool" = none
  list : mg "list" = none
  tuple : mg "tuple" = none
  dict : mg "dict" = none
section
variable {X : Cx} {Γ : Sl} {M : Mem} {Φ : D → Mem → Prop} {Ψ : XP} {a b c e o : Expr} {es : List Expr} {pos p p2 pos2 : Pos}
theorem je_isi {x : Str} {T : String} (m1 : X.mg "isinstance" = none) (m2 : X.mg x = none) (hv : bootBuiltins x = some (.type T)) (hT : T ∈ ["str", "int", "bool", "tuple", "list", "dict"]) (h : JE X Γ M e (fun d M1 => ∃ n, tyN d = some n ∧ Φ (.bl (isT T d)) M1) Ψ)
    (hg : Gl X "isinstance" := by rfl) (hg2 : Gl X x := by rfl) (hn : x ≠ "__name__" := by decide) (hdb : (x == ("__debug__" : Str)) = false := by decide)
    (he : starEach [e, .Name x p2] X.env = (false, eval e X.env) :: starEach [.Name x p2] X.env := by rfl) (he2 : starEach [.Name x p2] X.env = (false, eval (.Name x p2) X.env) :: starEach [] X.env := by rfl) (hpl : (backTo pos (starEach [.Name x p2] X.env)).any (·.1) = false := by rfl) :
    JE X Γ M (.Call (.Name "isinstance" p) [e, .Name x p2] [] pos) Φ Ψ := by
  refine je_callB m1 boot_isinstance (ja_cons (h.imp fun d M' ⟨n, hn', h⟩ => ?_) he) hg (by decide) (by decide) he hpl
  exact ja_cons (je_bltn (v := .ty T) m2 hv rfl (ja_nil (cd_isi hn' (isT_of hT hn') h)) hg2 hn hdb) he2
theorem je_isiC' {x : Str} {C : Addr} (m1 : X.mg "isinstance" = none) (m2 : X.mg x = some (.ref C)) (h : JE X Γ M e (fun d M1 => ∃ b, ((∃ n, tyN d = some n ∧ PySem.W.kitOne X.K (.type n) (.ref C) = some b) ∨ ∃ C' fs, d = .ins C' fs ∧ IsiC X.K C' ∧ PySem.W.kitOne X.K (.ref C') (.ref C) = some b) ∧ Φ (.bl b) M1) Ψ)
    (hg : Gl X "isinstance" := by rfl) (hg2 : Gl X x := by rfl) (hdb : (x == ("__debug__" : Str)) = false := by decide)
    (he : starEach [e, .Name x p2] X.env = (false, eval e X.env) :: starEach [.Name x p2] X.env := by rfl) (he2 : starEach [.Name x p2] X.env = (false, eval (.Name x p2) X.env) :: starEach [] X.env := by rfl) (hpl : (backTo pos (starEach [.Name x p2] X.env)).any (·.1) = false := by rfl) :
    JE X Γ M (.Call (.Name "isinstance" p) [e, .Name x p2] [] pos) Φ Ψ := by
  refine je_callB m1 boot_isinstance (ja_cons (h.imp fun d M' ⟨b, hb, h⟩ => ?_) he) hg (by decide) (by decide) he hpl
  refine ja_cons (je_glob (v := .ref C) (d := .raw (.ref C)) m2 rfl (fun _ => .raw _) (ja_nil ?_) hg2 hdb) he2
  rcases hb with ⟨n, hn, hb⟩ | ⟨C', fs, rfl, T, hb⟩
  · exact cd_isiC hn hb h
  · exact cd_isiI T hb h
theorem je_len (m1 : X.mg "len" = none) (h : JE X Γ M e (fun d M1 => ∃ n : Nat, ((∃ xs, d = .lst xs ∧ n = xs.length) ∨ (∃ xs, d = .tup xs ∧ n = xs.length) ∨ (∃ x : Str, d = .str x ∧ x.length ≤ 1000000 ∧ n = x.length) ∨ (∃ xs, d = .dK xs ∧ n = xs.length) ∨ (∃ xs, d = .dT xs ∧ n = xs.length) ∨ ∃ (k : Nat) (t : Addr) (xs : List D), d = .raw (.ref t) ∧ M1[k]? = some (t, .lst xs) ∧ n = xs.length) ∧ Φ (.int n) M1) Ψ)
    (hg : Gl X "len" := by rfl) (he : starEach [e] X.env = (false, eval e X.env) :: starEach [] X.env := by rfl) (hpl : (backTo pos (starEach [] X.env)).any (·.1) = false := by rfl) : JE X Γ M (.Call (.Name "len" p) [e] [] pos) Φ Ψ := by
  refine je_callB m1 boot_len (ja_cons (h.imp fun d M' ⟨n, hd, h⟩ => ja_nil ?_) he) hg (by decide) (by decide) he hpl
  rcases hd with ⟨xs, rfl, rfl⟩ | ⟨xs, rfl, rfl⟩ | ⟨xs, rfl, hl, rfl⟩ | ⟨xs, rfl, rfl⟩ | ⟨xs, rfl, rfl⟩ | ⟨k, t, xs, rfl, hk, rfl⟩
  · exact cd_lenL h
  · exact cd_lenT h
  · exact cd_lenS hl h
  · exact cd_lenDK h
  · exact cd_lenDT h
  · exact cd_lenC k hk h
/-- .. as a statement's test, a Bool -/
theorem jt_bl (h : JE X Γ M a (fun d M1 => ∃ b, d = .bl b ∧ Φ (.bl b) M1) Ψ) (he : ∀ whole, isTrue a X.env whole = (do let v ← whole; standAt a.pos; holding [v] (truthy v)) := by intro _; rfl) : JT X Γ M a (fun b M1 => Φ (.bl b) M1) Ψ := jt_val (h.imp fun d M1 h => h) he
theorem ite_t {c : Bool} {A B : Prop} (hc : c = true) (h : A) : if c = true then A else B := by
  rw [if_pos hc]
  exact h
theorem ite_f {c : Bool} {A B : Prop} (hc : c = false) (h : B) : if c = true then A else B := by
  rw [hc, if_neg Bool.false_ne_true]
  exact h
theorem ite_2 {c : Bool} {A B : Prop} (h1 : c = true → A) (h2 : c = false → B) : if c = true then A else B := by
  cases c with
  | true => exact ite_t rfl (h1 rfl)
  | false => exact ite_f rfl (h2 rfl)
end
end DL
end

section
set_option Elab.async false
set_option linter.all false
set_option maxRecDepth 100000
set_option maxHeartbeats 4000000
/-! List displays that change nothing. -/
namespace DL
open PySem PySem.Spec PyProof.Rows L2
section
variable {X : Cx} {Γ : Sl} {M : Mem} {Φ : D → Mem → Prop} {Ψ : XP} {e : Expr} {pos p : Pos}
theorem je_isiP {x1 x2 : Str} {T1 T2 : String} {p1 p2 pt : Pos} {kt} (hm : X.mg "isinstance" = none) (hm1 : X.mg x1 = none) (hv1 : bootBuiltins x1 = some (.type T1)) (hm2 : X.mg x2 = none) (hv2 : bootBuiltins x2 = some (.type T2)) (hT1 : T1 ∈ ["str", "int", "bool", "tuple", "list", "dict"]) (hT2 : T2 ∈ ["str", "int", "bool", "tuple", "list", "dict"])
    (h : JE X Γ M e (fun d M1 => ∃ n, tyN d = some n ∧ Φ (.bl (isT T1 d || isT T2 d)) M1) Ψ) (hg : Gl X "isinstance" := by rfl) (hg1 : Gl X x1 := by rfl) (hg2 : Gl X x2 := by rfl)
    (hn1 : x1 ≠ "__name__" := by decide) (hdb1 : (x1 == ("__debug__" : Str)) = false := by decide) (hn2 : x2 ≠ "__name__" := by decide) (hdb2 : (x2 == ("__debug__" : Str)) = false := by decide)
    (hs1 : starEach [.Name x1 p1, .Name x2 p2] X.env = (false, eval (.Name x1 p1) X.env) :: starEach [.Name x2 p2] X.env := by rfl) (hs2 : starEach [.Name x2 p2] X.env = (false, eval (.Name x2 p2) X.env) :: starEach [] X.env := by rfl)
    (hs3 : starEach [e, .Tuple [.Name x1 p1, .Name x2 p2] kt pt] X.env = (false, eval e X.env) :: starEach [.Tuple [.Name x1 p1, .Name x2 p2] kt pt] X.env := by rfl)
    (hs4 : starEach [.Tuple [.Name x1 p1, .Name x2 p2] kt pt] X.env = (false, eval (.Tuple [.Name x1 p1, .Name x2 p2] kt pt) X.env) :: starEach [] X.env := by rfl)
    (hpl : (backTo pos (starEach [.Tuple [.Name x1 p1, .Name x2 p2] kt pt] X.env)).any (·.1) = false := by rfl) : JE X Γ M (.Call (.Name "isinstance" p) [e, .Tuple [.Name x1 p1, .Name x2 p2] kt pt] [] pos) Φ Ψ := by
  refine je_isi2 hm hm1 hv1 hm2 hv2 (h.imp fun d M' ⟨n, hn, h⟩ => ⟨n, _, hn, ?_, h⟩) hg hg1 hg2 hn1 hdb1 hn2 hdb2 hs1 hs2 hs3 hs4 hpl
  show (kitB n T1).bind _ = _
  rw [isT_of hT1 hn]
  show (if isT T1 d = true then some true else (kitB n T2).bind _) = _
  rw [isT_of hT2 hn]
  cases isT T1 d <;> cases isT T2 d <;> rfl
end
theorem u1 {k : Nat} {A : Around} (r : Room k A) : A.units + 1 < cLine := by
  have := r.un
  omega
theorem u65 {k : Nat} {A : Around} (r : Room k A) : A.units + 65 < cLine := by
  have := r.un
  omega
/-- a def that only tells -/
def pureS (dom : List D → Prop) (f : List D → D) : DL.Spec := fun ds M Φ _ => M = [] ∧ dom ds ∧ Φ (f ds) []
section
variable {X : Cx} {Γ : Sl} {M : Mem} {Φ : D → Mem → Prop} {Ψ : XP} {elt tg iter c : Expr} {scope : Scope} {pos spos : Pos}
theorem take_next {α : Type} : ∀ {l : List α} {i : Nat} {x : α}, l[i]? = some x → l.take (i + 1) = l.take i ++ [x]
  | [], i, x, h => by simp at h
  | a :: l, 0, x, h => by
    cases h
    rfl
  | a :: l, i + 1, x, h => by
    show a :: l.take (i + 1) = a :: l.take i ++ [x]
    rw [take_next (l := l) (i := i) (x := x) h]
    rfl
theorem lc_map {vs : List Nat} (f : D → D) {xs : List D} {M1 : Mem} (hl : xs.length ≤ 1000000) (hq : Φ (.lst (xs.map f)) M1) (h : ∀ x ∈ xs, ∃ is ds, (∀ i ∈ is, i ∈ vs) ∧ Blks X scope (fun Y => JC Y tg x is ds) ∧ Blks X scope fun Z => JE Z (setD (wipeD Γ vs) is ds) M1 elt (fun d M4 => d = f x ∧ M4 = M1) noX) : LcAsk X Γ scope vs tg [] elt Φ xs M1 := by
  refine ⟨fun i acc M2 => acc = (xs.take i).map f ∧ M2 = M1, ⟨rfl, rfl⟩, fun acc M2 ⟨h1, h2⟩ => ?_, fun i x acc M2 hx ⟨h1, h2⟩ => ?_⟩
  · rw [List.take_length] at h1
    rw [h1, h2]
    exact hq
  · subst h1 h2
    refine ⟨by rw [List.length_map, List.length_take]; omega, ?_⟩
    obtain ⟨is, ds, h1, h2, h3⟩ := h x (List.mem_of_getElem? hx)
    refine ⟨is, ds, h1, h2, fun s H C cl fp => jts_nil (ite_t rfl fun s H C cl fp => (h3 s H C cl fp).imp fun d M4 ⟨e1, e2⟩ => ⟨?_, e2⟩)⟩
    rw [e1, take_next hx, List.map_append]
    rfl
theorem lc_fil {vs : List Nat} (p : D → Bool) (f : D → D) {xs : List D} {M1 : Mem} (hl : xs.length ≤ 1000000) (hq : Φ (.lst ((xs.filter p).map f)) M1) (h : ∀ x ∈ xs, ∃ is ds, (∀ i ∈ is, i ∈ vs) ∧ Blks X scope (fun Y => JC Y tg x is ds) ∧ Blks X scope fun Z => JT Z (setD (wipeD Γ vs) is ds) M1 c (fun b M4 => b = p x ∧ M4 = M1 ∧ Blks X scope fun Z => JE Z (setD (wipeD Γ vs) is ds) M1 elt (fun d M4 => d = f x ∧ M4 = M1) noX) noX) : LcAsk X Γ scope vs tg [c] elt Φ xs M1 := by
  refine ⟨fun i acc M2 => acc = ((xs.take i).filter p).map f ∧ M2 = M1, ⟨rfl, rfl⟩, fun acc M2 ⟨h1, h2⟩ => ?_, fun i x acc M2 hx ⟨h1, h2⟩ => ?_⟩
  · rw [List.take_length] at h1
    rw [h1, h2]
    exact hq
  · subst h1 h2
    refine ⟨by
      have := List.length_filter_le p (xs.take i)
      rw [List.length_take] at this
      rw [List.length_map]
      omega, ?_⟩
    obtain ⟨is, ds, h1, h2, h3⟩ := h x (List.mem_of_getElem? hx)
    refine ⟨is, ds, h1, h2, fun s H C cl fp => jts_one ?_⟩
    intro B Hn H' σ S A Q q
    refine h3 s H C cl fp B Hn H' σ S A Q fun b M' Hn' H' ⟨e1, e2, h4⟩ => q b M' Hn' H' ?_
    subst e1 e2
    refine ite_2 (fun e => ?_) fun e => ?_
    · intro s H C cl fp
      refine (h4 s H C cl fp).imp fun d M4 ⟨e1, e2⟩ => ⟨?_, e2⟩
      rw [e1, take_next hx, List.filter_append, List.map_append, List.filter_cons_of_pos e]
      rfl
    · refine ⟨?_, rfl⟩
      rw [take_next hx, List.filter_append, List.filter_cons_of_neg (by rw [e]; decide), List.filter_nil, List.append_nil]
/-- 'it is so' for a test without effects -/
theorem JT.imp {Φb Φb' : Bool → Mem → Prop} (h : JT X Γ M c Φb Ψ) (i : ∀ b M', Φb b M' → Φb' b M') : JT X Γ M c Φb' Ψ := fun B Hn H σ S A Q q => h B Hn H σ S A Q fun b M' Hn' H' p => q b M' Hn' H' (i b M' p)
theorem blk_ok {N : List Str} {sc scope : Scope} {own : List (Str × Nat)} (h1 : scope.kind = .function := by rfl) (h2 : (scope.names.all fun y => scope.names.lookup y.1 == some y.2) = true := by kernel_rfl) (h3 : (own.all fun p => N[p.2]? == some p.1) = true := by kernel_rfl)
    (h4 : (scope.names.all fun y => !(y.2 == NameKind.free) || (sc.names.lookup y.1 == some NameKind.cell || sc.names.lookup y.1 == some NameKind.free)) = true := by kernel_rfl)
    (h5 : (scope.names.all fun y => !(y.2 == NameKind.local || y.2 == NameKind.cell) || ((own.map (·.1)).contains y.1 || !N.contains y.1)) = true := by kernel_rfl) : BlkOk N sc scope own := by
  refine ⟨h1, fun y hy => ?_, fun p hp => ?_, fun y hy e => ?_, fun y hy e => ?_⟩
  · simpa using List.all_eq_true.mp h2 y hy
  · simpa using List.all_eq_true.mp h3 p hp
  · have z := List.all_eq_true.mp h4 y hy
    simp only [e, Bool.or_eq_true, Bool.not_eq_true', beq_iff_eq] at z
    rcases z with z | z
    · exact absurd z (by decide)
    · exact z
  · have z := List.all_eq_true.mp h5 y hy
    have q : (y.2 == NameKind.local || y.2 == NameKind.cell) = true := by
      rcases e with e | e <;> rw [e] <;> decide
    rw [q] at z
    simp only [Bool.not_true, Bool.false_or, Bool.or_eq_true, Bool.not_eq_true', List.contains_iff_mem] at z
    rcases z with z | z
    · exact .inl z
    · refine .inr fun m => ?_
      rw [List.contains_iff_mem.mpr m] at z
      cases z
end
end DL
end

section
set_option Elab.async false
set_option linter.all false
set_option maxRecDepth 100000
set_option maxHeartbeats 4000000
/-! == and len of an instance whose class has its own. -/
namespace DL
open PySem PySem.Spec PyProof.Rows L2
section
variable {X : Cx} {k : Nat} {C f : Addr} {fd : FuncData} {ps : List Str} {sp : Sp}
def Kind2 (X : Cx) (C : Addr) (H : Hp) (y : V) : Prop := (∃ b dy gs, y = .ref b ∧ H b = some (.ins C dy gs)) ∨ (∃ b ys, y = .ref b ∧ SqT X.K H b ys ∧ PySem.W.notFirst X.K C (.type "tuple") = true)
def rOwnEq (X : Cx) (C : Addr) (sp : Sp) : R2 := fun x y H Q => ∃ a dx fs, x = .ref a ∧ H a = some (.ins C dx fs) ∧ Kind2 X C H y ∧ sp [x, y] H (fun v H' => (∃ b, v = .bl b) ∧ Q v H') fun _ _ _ => False
theorem op_ownEq (F : FnOk X.prog X.w X.K X.mg X.base (L2.CX X.prog X.w) k f fd ps sp) (hm : Meth X.K C "__eq__" f) (hb : Binds X.K fd ps []) (hr : Room k X.A) : OpR X (compareOp .Eq) (rOwnEq X C sp) := by
  intro pins s σ H x y v u Q I rx ry h
  obtain ⟨a, dx, fs, rfl, ha, hk, hsp⟩ := h
  cases rx
  obtain ⟨mA, J, _⟩ := ins_get I.hok ha
  obtain ⟨od, J, _⟩ := J.look
  obtain ⟨m, hF⟩ := I.fr
  have hty : ∃ tb, PySem.W.Looks (model X.prog X.w) s.heap (typeOf u) tb ∧ PySem.W.notFirst X.K C tb = true := by
    rcases hk with ⟨b, dy, gs, rfl, hb'⟩ | ⟨b, ys, rfl, hq, hn⟩
    · cases ry
      obtain ⟨mB, J', _⟩ := ins_get I.hok hb'
      obtain ⟨od', J', _⟩ := J'.look
      exact ⟨_, J'.type, by simp [PySem.W.notFirst]⟩
    · cases ry
      obtain ⟨its, _, ⟨o, e, c, _⟩, _⟩ := I.tuple hq
      exact ⟨.type "tuple", c ▸ (PySem.W.Looks.ld e).andThen .now, hn⟩
  obtain ⟨tb, lk, hn⟩ := hty
  show wpAny (model X.prog X.w) X.A (richCompare .Eq (.ref a) u) (EP X pins σ Q) X.xe s
  refine PySem.W.cmp_K (op := .Eq) (tb := tb) hr.units0 hF I.ok.mod.kin J lk hn hm.at_ hm.fn ?_
  refine wpAny_mono (run_fnSD (E := fun _ _ _ _ => False) (us := [.ref a, u]) (vs := [.ref a, y]) (dvs := []) (ds := []) (Q := fun v H' => (∃ b, v = .bl b) ∧ Q v H') F hr hb .nil (fun pins H s e s' _ ⟨_, _, _, _, _, _, _, _, _, _, _, _, z⟩ => z.elim) I (.cons rfl (.cons ry .nil)) (by simpa using hsp)) (fun r s' z => ?_) fun _ _ z => z
  obtain ⟨v, H', I', rv, ⟨b, rfl⟩, q⟩ := z
  cases rv
  exact ⟨.bl b, H', I', rfl, q⟩
def rOwnLen (C : Addr) (sp : Sp) : List V → Hp → VK → Prop := fun xs H Q => ∃ a dx fs, xs = [.ref a] ∧ H a = some (.ins C dx fs) ∧ sp [.ref a] H (fun v H' => (∃ n : Int, v = .int n ∧ 0 ≤ n ∧ n < 2 ^ 63) ∧ Q v H') fun _ _ _ => False
theorem call_ownLen (F : FnOk X.prog X.w X.K X.mg X.base (L2.CX X.prog X.w) k f fd ps sp) (hm : Meth X.K C "__len__" f) (hb : Binds X.K fd ps []) (hr : Room (k + 1) X.A) : CallR X (.builtin "len") (rOwnLen C sp) := by
  intro pins s σ H xs us Q I rr h
  obtain ⟨a, dx, fs, rfl, ha, hsp⟩ := h
  cases rr with
  | cons r1 rr =>
    cases rr
    cases r1
    obtain ⟨mA, J, _⟩ := ins_get I.hok ha
    obtain ⟨od, J, _⟩ := J.look
    obtain ⟨m, hF⟩ := I.fr
    refine PySem.W.len_K hF I.ok.mod.kin J hm.at_ hm.fn ?_
    have e0 : Env0 X.prog X.w X.K X.mg X.base X.A.in1 X.stack s H := by
      have e := I.env0
      exact ⟨e.frames, e.mod, e.bs, e.bsz, e.funs, e.frf, e.hok, e.bare⟩
    have hl := F.len _ _ _ _ hsp
    refine wpAny_call (codeAny_mono (F.run X.A.in1 X.stack s H ⟨[.ref a], []⟩ [.ref a] [.ref a] _ (fun _ _ _ => False) hr.in1 e0 (by
      have := hb s [.ref a] I.kIn (by simpa using hl)
      simpa using this) (.cons rfl .nil) hsp) fun r s' hq => ?_)
    cases r with
    | error e =>
      obtain ⟨_, _, _, _, _, _, _, _, _, _, _, _, z⟩ := hq
      exact z.elim
    | ok fl =>
      cases fl with
      | ret w =>
        obtain ⟨z, H', I', rz, ⟨n, rfl, n0, n1⟩, q⟩ := I.after hq
        obtain ⟨t, rfl⟩ := rz
        refine ⟨⟨n0, n1⟩, .int n, H', I'.tok _, ⟨_, rfl⟩, q⟩
      | next => exact False.elim hq
      | brk => exact False.elim hq
      | cont => exact False.elim hq
end
section
variable {X : Cx} {Γ : Sl} {M : Mem} {Φ : D → Mem → Prop} {Ψ : XP} {k : Nat} {C : Addr} {spec : DL.Spec}
theorem no_dvs {us : List Value} {dvs : List V} (hv : Vals dvs us) (hd : ∀ Hn, IsA X.K Hn dvs []) : us = [] := by
  cases hd (fun _ => none) with
  | nil => cases hv; rfl
/-- x == y by the class's own, y a tuple or such an instance -/
theorem opd_ownEq {x y : D} (G : GMe X.prog X.w X.K X.mg X.base k C "__eq__" [] spec) (hr : Room k X.A) (hx : InsAt M C "__eq__" x) (hy : (∃ fs, y = .ins C fs) ∨ ((∃ ys, y = .tup ys) ∧ PySem.W.notFirst X.K C (.type "tuple") = true)) (u : Use spec [x, y] M (fun d M' => (∃ b, d = .bl b) ∧ Φ d M') noX) : OpD X (compareOp .Eq) x y M Φ := fun B Γ Hn H σ v w Q S rx ry q => by
  obtain ⟨f, fd, ps, us, dvs, F, hm, hb, hv, hd⟩ := G.ex
  obtain rfl := no_dvs hv hd
  refine ⟨_, op_ownEq F hm hb hr, ?_⟩
  obtain ⟨a, dx, fs, rfl, ha, _⟩ := hx.at S.rep rx
  refine ⟨a, dx, fs, rfl, ha, ?_, ?_⟩
  · rcases hy with ⟨fs, rfl⟩ | ⟨⟨ys, rfl⟩, hn⟩
    · cases ry with
      | @ins b _ dy gs _ h1 _ => exact .inl ⟨b, dy, gs, rfl, S.rep.sub _ _ h1⟩
    · cases ry with
      | @tup b ws _ h1 _ => exact .inr ⟨b, ws, rfl, same_t S.rep.sub h1, hn⟩
  · cases u with
    | none h =>
      refine ⟨[x, y], [], Hn, _, _, .cons rx (.cons ry .nil), S.rep.part (fun p hp => by simp at hp) (by simp), h, fun v d M' Hn' H' p R st e rv => ?_, fun x M' Hn' H' cls dd p R st e ri => p.elim⟩
      obtain ⟨⟨b, rfl⟩, p⟩ := p
      have S' := S.call (M0 := []) (M' := M) (fun p hp => by simp at hp) R st e rfl fun p hp => .inr ⟨hp, by simp⟩
      cases rv
      exact ⟨⟨b, rfl⟩, q _ _ _ Hn' H' p S' st.nn (.bl b)⟩
    | one j t c hk h =>
      have hm : ∀ p ∈ [(t, c)], p ∈ M := fun p hp => by
        rw [List.mem_singleton.mp hp]
        exact List.mem_of_getElem? hk
      refine ⟨[x, y], [(t, c)], Hn, _, _, .cons rx (.cons ry .nil), S.rep.part hm (by simp), h, fun v d M' Hn' H' p R st e rv => ?_, fun x M' Hn' H' cls dd p R st e ri => ?_⟩
      · obtain ⟨c', rfl⟩ := one_of e
        obtain ⟨⟨b, rfl⟩, p⟩ := p c' rfl
        cases rv
        exact ⟨⟨b, rfl⟩, q _ _ _ Hn' H' p (S.call hm R st e (map_set hk) (mem_set_of S.rep.nd hk)) st.nn (.bl b)⟩
      · obtain ⟨c', rfl⟩ := one_of e
        exact (p c' rfl).elim
    | many ks M0 hk hn h =>
      refine ⟨[x, y], M0, Hn, _, _, .cons rx (.cons ry .nil), S.rep.part (mem_hk hk) (nd_hk S.rep.nd hk hn), h, fun v d M' Hn' H' p R st e rv => ?_, fun x M' Hn' H' cls dd p R st e ri => (p e).elim⟩
      obtain ⟨⟨b, rfl⟩, p⟩ := p e
      cases rv
      exact ⟨⟨b, rfl⟩, q _ _ _ Hn' H' p (S.call (mem_hk hk) R st e (map_setMs hk hn e) (mem_setMs S.rep.nd hk hn e)) st.nn (.bl b)⟩
/-- len(x) by the class's own -/
theorem cd_ownLen {x : D} (G : GMe X.prog X.w X.K X.mg X.base k C "__len__" [] spec) (hr : Room (k + 1) X.A) (hx : InsAt M C "__len__" x) (u : spec [x] [] (fun d _ => (∃ n : Int, d = .int n ∧ 0 ≤ n ∧ n < 2 ^ 63) ∧ Φ d M) fun _ _ => False) : CallD X (.builtin "len") [x] M Φ := fun B Γ Hn H σ vs Q S rr q => by
  obtain ⟨f, fd, ps, us, dvs, F, hm, hb, hv, hd⟩ := G.ex
  obtain rfl := no_dvs hv hd
  obtain ⟨v, rfl, rx⟩ := rr.one
  refine ⟨_, call_ownLen F hm hb hr, ?_⟩
  obtain ⟨a, dx, fs, rfl, ha, _⟩ := hx.at S.rep rx
  refine ⟨a, dx, fs, rfl, ha, ?_⟩
  refine ⟨[x], [], Hn, _, _, .cons rx .nil, S.rep.part (fun p hp => by simp at hp) (by simp), u, fun v d M' Hn' H' p R st e rv => ?_, fun x M' Hn' H' cls dd p R st e ri => p.elim⟩
  obtain ⟨⟨n, rfl, n0, n1⟩, p⟩ := p
  have S' := S.call (M0 := []) (M' := M) (fun p hp => by simp at hp) R st e rfl fun p hp => .inr ⟨hp, by simp⟩
  cases rv
  exact ⟨⟨n, rfl, n0, n1⟩, q _ _ _ Hn' H' p S' st.nn (.int n)⟩
end
end DL
end

section
set_option Elab.async false
set_option linter.all false
set_option maxRecDepth 100000
set_option maxHeartbeats 4000000
/-! A def that hands back a list of its own. -/
namespace DL
open PySem PySem.Spec PyProof.Rows L2
/-- what a def hands back: data, or a list of its own that is data from then on -/
def Rt (Φ : D → Mem → Prop) (n : Nat) (d : D) (M' : Mem) : Prop := Φ d (M'.take n) ∨ ∃ (k : Nat) (t : Addr) (xs : List D), n ≤ k ∧ d = .raw (.ref t) ∧ M'[k]? = some (t, .lst xs) ∧ Φ (.lst xs) (M'.take n)
/-- as fn_d, what is handed back may be a list of the def's own -/
theorem fn_dc {Pg : Program} {w : World} {K : PySem.W.Frag} {mg : Str → Option Value} {base : Heap} {x qual : Str} {st : Stmt} {f : Addr} {fd : FuncData} {N ps : List Str} {k : Nat} {spec : Spec} (F : Fun K x qual st f fd) (Sc : FnScope N ps (defScope st))
    (len : ∀ ds M Φ Ψ, spec ds M Φ Ψ → ds.length = ps.length)
    (body : ∀ (cdv : Value) (A : Around) (outer : List Env) (s : Shared) (H : Hp) (E : XK), Room k (A.deeper (envOfC qual (defScope st) s.heap.objs.size f cdv)) → ∀ ds M Φ Ψ, spec ds M Φ Ψ →
      JSs (cxOf (L2.CX Pg w) Pg w K mg base N qual (defScope st) f cdv A outer s H E) (ds.map some ++ List.replicate (N.length - ds.length) none) M (defBody st)
        { nx := fun _ M' => Φ .non (M'.take M.length), rt := fun d M' => Rt Φ M.length d M', ex := fun x _ M' => Ψ x (M'.take M.length) }) : FnOk Pg w K mg base (L2.CX Pg w) (k + 1) f fd ps (spD K spec) := by
  refine F.okX Sc (fun vs H Q E h => ?_) (fun cdv A outer s H vs Q E hr h => ?_)
  · obtain ⟨ds, M, Hn, Φ, Ψ, r, _, hsp, _⟩ := h
    rw [r.length]
    exact len _ _ _ _ hsp
  · obtain ⟨ds, M, Hn, Φ, Ψ, r, R, hsp, q, qx⟩ := h
    refine ⟨_, pss_run, ?_⟩
    have pre : M.map (·.1) <+: M.map (·.1) := List.prefix_refl _
    have S : SR K ⟨Hn, H, M.map (·.1)⟩ M (ds.map some ++ List.replicate (N.length - ds.length) none) Hn H (L2.start N vs) := by
      refine ⟨R, Step.refl, fun p hp => .inl (List.mem_map_of_mem hp), pre, fun i d hi => ?_⟩
      unfold L2.start
      by_cases hl : i < ds.length
      · rw [List.getElem?_append_left (by simpa using hl), List.getElem?_map] at hi
        cases hd : ds[i]? with
        | none => rw [hd] at hi; cases hi
        | some d' =>
          rw [hd] at hi
          cases hi
          obtain ⟨v, hv, rv⟩ := r.get hd
          exact ⟨v, by rw [List.getElem?_append_left (by rw [List.length_map, r.length]; exact hl), List.getElem?_map, hv]; rfl, rv⟩
      · rw [List.getElem?_append_right (by simpa using hl), List.getElem?_replicate] at hi
        split at hi <;> cases hi
    -- what a state behind gives the caller
    have back : ∀ {M' : Mem} {Γ' : Sl} {Hn' H' : Hp} {σ' : L2.St}, SR K ⟨Hn, H, M.map (·.1)⟩ M' Γ' Hn' H' σ' → Rep K (M'.take M.length) Hn' H' ∧ (M'.take M.length).map (·.1) = M.map (·.1) := by
      intro M' Γ' Hn' H' σ' S'
      refine ⟨S'.rep.part (fun p hp => List.mem_of_mem_take hp) ?_, ?_⟩
      · rw [List.map_take]
        exact S'.rep.nd.sublist (List.take_sublist _ _)
      · obtain ⟨z, hz⟩ := S'.pre
        rw [List.map_take, ← hz]
        have hz' : M.map (·.1) ++ z = M'.map (·.1) := hz
        rw [List.take_append_of_le_length (by simp), List.take_of_length_le (by simp)]
    refine body cdv A outer s H E hr ds M Φ Ψ hsp (⟨Hn, H, M.map fun p : Addr × Cell => p.1⟩ : Bas) Hn H (L2.start N vs) S _ ⟨fun Γ' M' Hn' H' σ' p S' => ?_, fun Γ' M' Hn' H' σ' p => p.elim, fun Γ' M' Hn' H' σ' p => p.elim, fun v d M' Hn' H' p S' rv => ?_, fun x Γ' M' Hn' H' σ' cls dd p S' ri => ?_⟩
    · obtain ⟨b1, b2⟩ := back S'
      exact q .non .non _ Hn' H' p b1 S'.step b2 .non
    · rcases p with p | ⟨k, t, xs, hk, rfl, hM, p⟩
      · obtain ⟨b1, b2⟩ := back S'
        exact q v d _ Hn' H' p b1 S'.step b2 rv
      · cases rv
        obtain ⟨ws, h1, r⟩ := (S'.rep.cell _ (List.mem_of_getElem? hM)).2
        have hn : Hn' t = none := (S'.rep.cell _ (List.mem_of_getElem? hM)).1
        have S2 := S'.toData (o := .lst ws) hM h1 (by simpa using hk)
        obtain ⟨b1, b2⟩ := back S2
        have e : (M'.eraseIdx k).take M.length = M'.take M.length := by
          refine List.ext_getElem? fun j => ?_
          rw [List.getElem?_take, List.getElem?_take]
          split
          · rw [List.getElem?_eraseIdx, if_pos (by omega)]
          · rfl
        rw [e] at b1 b2
        exact q (.ref t) (.lst xs) _ _ H' p b1 S2.step b2 (.lst upd_same (r.mono (same_upd hn)))
    · obtain ⟨b1, b2⟩ := back S'
      exact air_of (W := fun cls d _ H => E cls d H) (takes_of rfl rfl rfl rfl) (qx x _ Hn' H' cls dd p b1 S'.step b2 ri)
end DL
end

section
set_option Elab.async false
set_option linter.all false
set_option maxRecDepth 100000
set_option maxHeartbeats 4000000
/-! list of a dict whose keys are tuples; a text times an int; [::-1]. -/
namespace DL
open PySem PySem.Spec PyProof.Rows L2
theorem seen_all {K : PySem.W.Frag} {B : Bas} {M : Mem} {Γ : Sl} {H : Hp} {σ : L2.St} : ∀ {ks : List (List Key × V)} {ds : List (D × D)} {bs : List Addr} {Hn0 : Hp}, IsT K Hn0 ks ds → IsKeys H ks bs → ∀ {Hn : Hp}, SR K B M Γ Hn H σ → ∃ Hn', SR K B M Γ Hn' H σ ∧ Same Hn Hn' ∧ IsA K Hn' (bs.map V.ref) (ds.map (·.1))
  | _, _, _, _, .nil, .nil, Hn, S => ⟨Hn, S, Same.refl _, .nil⟩
  | _, _, _, _, .cons (k := k) a r, .cons e t, Hn, S => by
    obtain ⟨Hn1, S1, e1, h1⟩ := S.seen e
    obtain ⟨Hn2, S2, e2, r2⟩ := seen_all r t S1
    refine ⟨Hn2, S2, e1.trans e2, .cons (.tup (.inl (e2 _ _ h1)) ?_) r2⟩
    have ki : ∀ l : List Key, IsA K Hn2 (l.map kV) (l.map keyD) := by
      intro l
      induction l with
      | nil => exact .nil
      | cons x l ih =>
        refine .cons ?_ ih
        cases x with
        | inl i => exact .int i
        | inr x => exact .str x
    exact ki k
theorem cd_listDT {X : Cx} {M : Mem} {Φ : D → Mem → Prop} {x : D} {kvs : List (D × D)} (hc : X.calm = true) (hx : DicT M x kvs) (h : Φ (.lst (kvs.map (·.1))) M) : CallD X (.type "list") [x] M Φ := fun B Γ Hn H σ vs Q S rr q => by
  obtain ⟨v, rfl, r⟩ := rr.one
  obtain ⟨a, ks, rfl, ha, rk⟩ := hx.at S.rep r
  refine ⟨_, call_list_dT hc, a, ks, rfl, .inl ha, fun p bs hp hb => ?_⟩
  obtain ⟨Hn1, S1, e1, r1⟩ := seen_all rk hb S
  have sn := same_upd (o := .lst (bs.map V.ref)) (S1.rep.nn hp)
  exact q _ _ M _ _ h (S1.alloc hp) (e1.trans sn) (.lst upd_same (r1.mono sn))
theorem op_mulS {X : Cx} : OpR X (binaryOp .Mult) (fun x y H Q => ∃ z n, x = .str z ∧ y = .int n ∧ MulOk z n ∧ Q (.str (Txt.mul z n)) H) := by
  intro pins s σ H x y v u Q I rx ry h
  obtain ⟨z, n, rfl, rfl, hok, q⟩ := h
  obtain ⟨t, rfl⟩ := rx
  obtain ⟨t2, rfl⟩ := ry
  exact SB.mul hok fun t' k => ⟨.str _, H, I.tok k, ⟨t', rfl⟩, q⟩
theorem opd_mulS {X : Cx} {M : Mem} {Φ : D → Mem → Prop} {z : Str} {n : Int} (hok : MulOk z n) (h : Φ (.str (Txt.mul z n)) M) : OpD X (binaryOp .Mult) (.str z) (.int n) M Φ := fun B Γ Hn H σ v u Q S rx ry q => by
  cases rx
  cases ry
  exact ⟨_, op_mulS, z, n, rfl, rfl, hok, q _ _ _ _ _ h S (Same.refl _) (.str _)⟩
theorem isA_rev {K : PySem.W.Frag} {H : Hp} : ∀ {vs : List V} {ds : List D}, IsA K H vs ds → IsA K H vs.reverse ds.reverse
  | _, _, .nil => .nil
  | _, _, .cons a b => by
    rw [List.reverse_cons, List.reverse_cons]
    exact (isA_rev b).append (.cons a .nil)
theorem je_rev {X : Cx} {Γ : Sl} {M : Mem} {Φ : D → Mem → Prop} {Ψ : XP} {e : Expr} {k : Nat} {p1 p2 p3 pos : Pos} (h : JE X Γ M e (fun x M1 => ∃ xs, x = .lst xs ∧ Φ (.lst xs.reverse) M1) Ψ) : JE X Γ M (.Subscript e (.Slice none none (some (.UnaryOp .USub (.Constant (.int 1) k p1) p2)) p3) pos) Φ Ψ := fun B Hn H σ S A Q q => by
  refine run_pe (pe_revL pe_run) ?_
  refine h B Hn H σ S A _ fun v d M1 Hn1 H1 p1 S1 e1 r1 => ?_
  obtain ⟨xs, rfl, hp⟩ := p1
  cases r1 with
  | @lst t ws _ h1 r1 =>
    refine ⟨t, ws, rfl, SqL.of (S1.rep.sub _ _ h1), fun p hp' => ?_⟩
    have sn := same_upd (o := .lst ws.reverse) (S1.rep.nn hp')
    exact q _ _ _ _ _ hp (S1.alloc hp') (e1.trans sn) (.lst upd_same ((isA_rev r1).mono sn))
end DL
end

section
set_option Elab.async false
set_option linter.all false
set_option maxRecDepth 100000
set_option maxHeartbeats 4000000
/-! A def with defaults. -/
namespace DL
open PySem PySem.Spec PyProof.Rows L2
/-- as fn_d, a def with defaults -/
theorem fn_dD {Pg : Program} {w : World} {K : PySem.W.Frag} {mg : Str → Option Value} {base : Heap} {x qual : Str} {st : Stmt} {f : Addr} {fd : FuncData} {N ps : List Str} {k : Nat} {spec : Spec} {dvs : List V} {kws : List (Str × V)} (F : FunD K x qual (defArgs st) (defBody st) (defScope st) dvs kws f fd) (Sc : FnScope N ps (defScope st))
    (len : ∀ ds M Φ Ψ, spec ds M Φ Ψ → ds.length = ps.length)
    (body : ∀ (cdv : Value) (A : Around) (outer : List Env) (s : Shared) (H : Hp) (E : XK), Room k (A.deeper (envOfC qual (defScope st) s.heap.objs.size f cdv)) → ∀ ds M Φ Ψ, spec ds M Φ Ψ →
      JSs (cxOf (L2.CX Pg w) Pg w K mg base N qual (defScope st) f cdv A outer s H E) (ds.map some ++ List.replicate (N.length - ds.length) none) M (defBody st)
        { nx := fun _ M' => Φ .non (M'.take M.length), rt := fun d M' => Φ d (M'.take M.length), ex := fun x _ M' => Ψ x (M'.take M.length) }) : FnOk Pg w K mg base (L2.CX Pg w) (k + 1) f fd ps (spD K spec) := by
  refine F.ok (CX := L2.CX Pg w) Sc (fun vs H Q E h => ?_) (fun cdv A outer s H vs Q E hr h => ?_)
  · obtain ⟨ds, M, Hn, Φ, Ψ, r, _, hsp, _⟩ := h
    rw [r.length]
    exact len _ _ _ _ hsp
  · obtain ⟨ds, M, Hn, Φ, Ψ, r, R, hsp, q, qx⟩ := h
    refine ⟨_, pss_run, ?_⟩
    have pre : M.map (·.1) <+: M.map (·.1) := List.prefix_refl _
    have S : SR K ⟨Hn, H, M.map (·.1)⟩ M (ds.map some ++ List.replicate (N.length - ds.length) none) Hn H (L2.start N vs) := by
      refine ⟨R, Step.refl, fun p hp => .inl (List.mem_map_of_mem hp), pre, fun i d hi => ?_⟩
      unfold L2.start
      by_cases hl : i < ds.length
      · rw [List.getElem?_append_left (by simpa using hl), List.getElem?_map] at hi
        cases hd : ds[i]? with
        | none => rw [hd] at hi; cases hi
        | some d' =>
          rw [hd] at hi
          cases hi
          obtain ⟨v, hv, rv⟩ := r.get hd
          exact ⟨v, by rw [List.getElem?_append_left (by rw [List.length_map, r.length]; exact hl), List.getElem?_map, hv]; rfl, rv⟩
      · rw [List.getElem?_append_right (by simpa using hl), List.getElem?_replicate] at hi
        split at hi <;> cases hi
    -- what a state behind gives the caller
    have back : ∀ {M' : Mem} {Γ' : Sl} {Hn' H' : Hp} {σ' : L2.St}, SR K ⟨Hn, H, M.map (·.1)⟩ M' Γ' Hn' H' σ' → Rep K (M'.take M.length) Hn' H' ∧ (M'.take M.length).map (·.1) = M.map (·.1) := by
      intro M' Γ' Hn' H' σ' S'
      refine ⟨S'.rep.part (fun p hp => List.mem_of_mem_take hp) ?_, ?_⟩
      · rw [List.map_take]
        exact S'.rep.nd.sublist (List.take_sublist _ _)
      · obtain ⟨z, hz⟩ := S'.pre
        rw [List.map_take, ← hz]
        have hz' : M.map (·.1) ++ z = M'.map (·.1) := hz
        rw [List.take_append_of_le_length (by simp), List.take_of_length_le (by simp)]
    refine body cdv A outer s H E hr ds M Φ Ψ hsp (⟨Hn, H, M.map fun p : Addr × Cell => p.1⟩ : Bas) Hn H (L2.start N vs) S _ ⟨fun Γ' M' Hn' H' σ' p S' => ?_, fun Γ' M' Hn' H' σ' p => p.elim, fun Γ' M' Hn' H' σ' p => p.elim, fun v d M' Hn' H' p S' rv => ?_, fun x Γ' M' Hn' H' σ' cls dd p S' ri => ?_⟩
    · obtain ⟨b1, b2⟩ := back S'
      exact q .non .non _ Hn' H' p b1 S'.step b2 .non
    · obtain ⟨b1, b2⟩ := back S'
      exact q v d _ Hn' H' p b1 S'.step b2 rv
    · obtain ⟨b1, b2⟩ := back S'
      exact air_of (W := fun cls d _ H => E cls d H) (takes_of rfl rfl rfl rfl) (qx x _ Hn' H' cls dd p b1 S'.step b2 ri)
end DL
end

section
set_option Elab.async false
set_option linter.all false
set_option maxRecDepth 100000
set_option maxHeartbeats 4000000
/-! A lambda without parameters, handed to a def that calls it. -/
namespace DL
open PySem PySem.Spec PyProof.Rows L2

section
variable {K : PySem.W.Frag} {Hn H Hn' H' : Hp} {M M' : Mem} {Γ Γ' : Sl} {σ σ' : L2.St} {B : Bas}
/-- what a body that was handed the cells M gives back -/
theorem SR.left (S : SR K ⟨Hn, H, M.map (·.1)⟩ M' Γ' Hn' H' σ') : Rep K (M'.take M.length) Hn' H' ∧ (M'.take M.length).map (·.1) = M.map (·.1) := by
  refine ⟨S.rep.part (fun p hp => List.mem_of_mem_take hp) ?_, ?_⟩
  · rw [List.map_take]
    exact S.rep.nd.sublist (List.take_sublist _ _)
  · obtain ⟨z, hz⟩ := S.pre
    have hz2 : M.map (·.1) ++ z = M'.map (·.1) := hz
    rw [List.map_take, ← hz2, List.take_append_of_le_length (by simp), List.take_of_length_le (by simp)]
/-- the outer state behind such a body -/
theorem SR.behind (S : SR K B M Γ Hn H σ) (S' : SR K ⟨Hn, H, M.map (·.1)⟩ M' Γ' Hn' H' σ') : SR K B (M'.take M.length) Γ Hn' H' σ := by
  obtain ⟨b1, b2⟩ := S'.left
  exact S.call (M0 := M) (M0' := M'.take M.length) (fun p hp => hp) b1 S'.step b2 b2 fun p hp => .inl hp
/-- the state in which such a body begins -/
theorem SR.inner (S : SR K B M Γ Hn H σ) (h : ∀ (i : Nat) (d : D), Γ'[i]? = some (some d) → ∃ v, σ'[i]? = some (some v) ∧ Is K Hn v d) : SR K ⟨Hn, H, M.map (·.1)⟩ M Γ' Hn H σ' :=
  ⟨S.rep, Step.refl, fun p hp => .inl (List.mem_map_of_mem hp), List.prefix_refl _, h⟩
end

/-- what a closure at f is known by: its code at c, the slots of its maker -/
def ClR (K : PySem.W.Frag) (c : Addr) (q : Str) (Γ : Sl) (σ : L2.St) (Hn : Hp) : Prop := Hn c = some (LamX.CodeO c q) ∧ ∀ (i : Nat) (d : D), Γ[i]? = some (some d) → ∃ v, σ[i]? = some (some v) ∧ Is K Hn v d
theorem ClR.mono {K : PySem.W.Frag} {c : Addr} {q : Str} {Γ : Sl} {σ : L2.St} {Hn Hn' : Hp} (h : ClR K c q Γ σ Hn) (e : Same Hn Hn') : ClR K c q Γ σ Hn' := ⟨e _ _ h.1, fun i d hi => by
  obtain ⟨v, h1, h2⟩ := h.2 i d hi
  exact ⟨v, h1, h2.mono e⟩⟩
abbrev lamQ (X : Cx) : Str := X.env.qual ++ "<lambda>"
abbrev lamO (X : Cx) (params : Arguments) (body : Expr) (scope : Scope) (pm ctv : Value) (c : Addr) : Obj := PySem.W.kla_obj "<lambda>" (X.env.qual ++ "<lambda>") params body scope (cloFrom X.env.cells scope.names []) pm c ctv

section
variable {X : Cx} {pins : List (Addr × Obj)} {σ : L2.St} {H : Hp} {s : Shared} {Γ : Sl} {M : Mem} {Φl : D → Mem → Prop} {Ψl : XP} {g f c : Addr} {cdg pm ctv : Value} {qg : Str} {sg : Scope} {Ng : List Str} {params : Arguments} {body : Expr} {scope : Scope} {kk : Nat} {E0 : XK}
/-- a() in the def that was handed the closure -/
theorem je_act {Γz : Sl} {pn : List (Addr × Obj)} {xe : Value → Shared → Prop} {a : Str} {p1 p2 : Pos} (J : Inv X pins σ H s) (L : LamX.LamS X.env.scope scope) (of : s.heap.get? f = some (lamO X params body scope pm ctv c)) (nf : H f = none) (rf : f ∉ frs X.stack)
    (bind0 : bindArgs (PySem.W.kla_fn "<lambda>" (X.env.qual ++ "<lambda>") params body scope (cloFrom X.env.cells scope.names []) pm (.ref c) ctv) ⟨[], []⟩ = pure [])
    (room : Room (kk + 1) (X.A.deeper (envOfC qg sg s.heap.objs.size g cdg)))
    (lam : ∀ (A : Around) (outer : List Env) (s : Shared) (H : Hp) (E : XK), Room kk (A.deeper (LamX.lamEnv X scope s.heap.objs.size f c)) → JE (LamX.lamCx X A outer s H E scope f c) Γ M body (fun d M1 => Φl d (M1.take M.length)) (fun x M1 => Ψl x (M1.take M.length)))
    (hΓ : Γz[0]? = some (some (.cl f (ClR X.K c (lamQ X) Γ σ)))) (hN : Ng[0]? = some a) (hv : Vis sg a) (hd : (a == ("__debug__" : Str)) = false := by decide) (hcd : (a == ("__classdict__" : Str)) = false := by decide) :
    JE ((cxOf (L2.CX X.prog X.w) X.prog X.w X.K X.mg X.base Ng qg sg g cdg X.A X.stack s H E0).tr pn xe) Γz M (.Call (.Name a p1) [] [] p2) Φl Ψl := by
  intro B Hn HZ σZ S Ar Q q pinsZ sZ IZ
  obtain ⟨v0, hv0, r0⟩ := S.sl 0 _ hΓ
  cases r0 with
  | cl r0 =>
    obtain ⟨hc, hsl⟩ := r0 Hn (Same.refl _)
    refine wpAny_Call_Name_kw (thn ((pe_var (pos := p1) (i := 0) hN hv hd hcd).run pinsZ sZ σZ HZ (fun y Hy => y = .ref f ∧ Hy = HZ) IZ ⟨.ref f, hv0, rfl, rfl⟩) fun u1 t1 hu1 => ?_)
    obtain ⟨y, Hy, J1, ry, ey, eHy⟩ := hu1
    subst ey
    subst eHy
    obtain rfl : u1 = Value.ref f := ry
    have of1 : t1.heap.get? f = some (lamO X params body scope pm ctv c) := J1.base.keep f _ of nf rf (fun z => nomatch (show f ∈ ([] : List Addr) from z))
    refine PySem.W.callWith_F0 ⟨_, _, _, _, of1⟩ ?_
    have un : Un (frs X.stack) [] H Hy s.heap t1.heap := J1.base
    obtain ⟨⟨oc, vs, t, hoc, hdc, hvc⟩, _, _⟩ := J1.hok c _ (S.rep.sub _ _ hc)
    have run1 : codeAny (model X.prog X.w) (X.A.deeper (envOfC qg sg s.heap.objs.size g cdg)) (.call (.ref f) ⟨[], []⟩) (CR (L2.CX X.prog X.w) (envOfC qg sg s.heap.objs.size g cdg :: X.stack) X.prog X.w Hy t1 Q (fun cls d H' => AirOk ((cxOf (L2.CX X.prog X.w) X.prog X.w X.K X.mg X.base Ng qg sg g cdg X.A X.stack s H E0).tr pn xe) cls d σZ H')) t1 := by
      refine PySem.W.kla_callFunE room.depth of1 rfl L.co L.gen rfl ⟨c, oc, vs, t, rfl, hoc, hdc, hvc⟩ ?_
      rw [bind0]
      refine wpAny_pure (wpAny_newFunctionEnv (fun y hy => (L.own y hy).2) (fun y hy => absurd hy (by simp)) (fun h2 hns hsb => ⟨J1.nolimit.fresh _ hsb, ?_⟩) L.kind)
      show codeAny _ _ (.expr body (LamX.lamEnv X scope t1.heap.objs.size f c)) _ _
      have kp : ∀ b o, t1.heap.get? b = some o → h2.get? b = some o := fun b o e => hsb.extBut b o (Nat.ne_of_lt (Heap.lt_size e)) (Heap.get?_push_of_some _ e)
      have J2 := LamX.lam_start2 (E := fun cls d H' => AirOk ((cxOf (L2.CX X.prog X.w) X.prog X.w X.K X.mg X.base Ng qg sg g cdg X.A X.stack s H E0).tr pn xe) cls d σZ H') (f := f) (c' := c) (tk := t1.toks + ([] : List (Str × Value)).length) J L J1.env0 room.hd un hns kp
      have S2 : SR X.K ⟨Hn, Hy, M.map (·.1)⟩ M Γ Hn Hy σ := S.inner hsl
      refine PySem.W.kla_codeExpr (wpAny_mono (lam (X.A.deeper (envOfC qg sg s.heap.objs.size g cdg)) (envOfC qg sg s.heap.objs.size g cdg :: X.stack) t1 Hy (fun cls d H' => AirOk ((cxOf (L2.CX X.prog X.w) X.prog X.w X.K X.mg X.base Ng qg sg g cdg X.A X.stack s H E0).tr pn xe) cls d σZ H') (room.deeper _) (⟨Hn, Hy, M.map fun p : Addr × Cell => p.1⟩ : Bas) Hn Hy σ S2 ?_ Q ?_ [] _ J2) (fun v s' hq => ?_) fun e s' hq => hq)
      · intro x M' Hn' H' cls dd px S3 e3 ri
        refine air_of (W := fun cls d _ H1 => AirOk ((cxOf (L2.CX X.prog X.w) X.prog X.w X.K X.mg X.base Ng qg sg g cdg X.A X.stack s H E0).tr pn xe) cls d σZ H1) (takes_of rfl rfl rfl rfl) ?_
        exact Ar x _ Hn' H' cls dd px (S.behind S3) e3 ri
      · intro v d M' Hn' H' pv S3 e3 rv
        exact q v d _ Hn' H' pv (S.behind S3) e3 rv
      · obtain ⟨w2, H', J3, rv, pq⟩ := hq
        exact ⟨w2, H', J3.os, J3.bare, J3.base, J3.hok, rv, pq⟩
    refine wpAny_call (codeAny_mono run1 fun r s' hq => ?_)
    · cases r with
      | error e => exact pass_air (X := (cxOf (L2.CX X.prog X.w) X.prog X.w X.K X.mg X.base Ng qg sg g cdg X.A X.stack s H E0).tr pn xe) pinsZ Hy t1 e s' J1 hq
      | ok fl =>
        cases fl with
        | ret u => exact J1.after hq
        | next => exact False.elim hq
        | brk => exact False.elim hq
        | cont => exact False.elim hq
end
end DL
end

section
set_option Elab.async false
set_option linter.all false
set_option maxRecDepth 100000
set_option maxHeartbeats 4000000
/-! A lambda is made and handed to a def. -/
namespace DL
open PySem PySem.Spec PyProof.Rows L2

section
variable {X : Cx} {pins : List (Addr × Obj)} {σ : L2.St} {H : Hp} {s : Shared} {c P : Addr} {params : Arguments} {body : Expr} {scope : Scope} {pos : Pos}
/-- a lambda is made; its code is in the table already, or is new there -/
theorem lam_at {E : Value → Shared → Prop} {Q : Value → Shared → Prop} {ps : Array Value} (J : Inv X pins σ H s) (tb : LamX.TabB X.base X.mg c P) (hcode : X.env.code = .ref c) (hP : H P = some (.tbl ps)) (ht : TriplesOk ps.toList)
    (hall : ∀ (p : Pos) (cv : Value), codeAmong p ps.toList = some cv → ∃ c1, cv = .ref c1 ∧ H c1 = some (LamX.CodeO c1 (lamQ X))) (hdef : defaultsOf params X.env = ([], [])) (hfree : ∀ y ∈ scope.names, y.2 = .free → ∃ c, X.env.cells.lookup y.1 = some c)
    (old : ∀ (f c1 : Addr) (pm ctv : Value) (t : Shared), codeAmong pos ps.toList = some (.ref c1) → Inv X pins σ H t → t.heap.get? f = some (lamO X params body scope pm ctv c1) → H f = none → f ∉ frs X.stack → H c1 = some (LamX.CodeO c1 (lamQ X)) → Q (.ref f) t)
    (new : ∀ (f c1 : Addr) (pm ctv : Value) (t : Shared), H c1 = none → c1 ≠ P → TriplesOk (ps ++ #[rawInt pos.line, rawInt pos.col, .ref c1]).toList → (∀ (p : Pos) (cv : Value), codeAmong p (ps ++ #[rawInt pos.line, rawInt pos.col, .ref c1]).toList = some cv → codeAmong p ps.toList = some cv ∨ cv = .ref c1) →
      Inv X pins σ (upd (upd H P (.tbl (ps ++ #[rawInt pos.line, rawInt pos.col, .ref c1]))) c1 (LamX.CodeO c1 (lamQ X))) t → t.heap.get? f = some (lamO X params body scope pm ctv c1) → f ≠ c1 → f ≠ P → H f = none → f ∉ frs X.stack → Q (.ref f) t) :
    wpAny (model X.prog X.w) X.A (eval (.Lambda params body scope pos) X.env) Q E s := by
  have bltP : s.heap.BuiltinsAt X.mg P := tb.bm.keeps J.bk
  have gotP := J.hok P _ hP
  have ofs : ∀ f, s.heap.objs.size ≤ f → f ∉ frs X.stack := fun f le z => by
    rcases List.mem_cons.mp (J.stkSub _ z) with e | e
    · have lt := J.lt
      rw [← e] at lt
      exact Nat.lt_irrefl _ (Nat.lt_of_lt_of_le lt le)
    · exact J.nofs le e
  refine PySem.W.kla_eval hdef ?_
  cases hc : codeAmong pos ps.toList with
  | some cv =>
    obtain ⟨c1, rfl, hco⟩ := hall pos cv hc
    refine PySem.W.kla_makeFunctionHit (closure_ok hfree) J.ok.glob (J.mod.glob.keeps J.bk) hcode (tb.code.keeps J.bk) gotP ht hc bltP fun ctv h1 tk keep le => ?_
    exact old _ c1 _ ctv _ hc (J.kept fun b o e => Heap.get?_push_of_some _ (keep b o e)) (Heap.get?_push_size _ rfl) (J.hok.fresh le) (ofs _ le) hco
  | none =>
    refine PySem.W.kla_makeFunction (closure_ok hfree) J.ok.glob (J.mod.glob.keeps J.bk) hcode (tb.code.keeps J.bk) gotP ht hc tb.gP bltP fun c1 ctv h1 tk keep le lt rec_ got => ?_
    obtain ⟨c2, oc, us, t, e2, hoc, hd, hv⟩ := rec_
    cases e2
    have le2 : s.heap.objs.size ≤ h1.objs.size := Nat.le_trans le (Nat.le_of_lt lt)
    have nc : H c1 = none := J.hok.fresh le
    have ltP := Heap.lt_size gotP
    have el : (ps ++ #[rawInt pos.line, rawInt pos.col, Value.ref c1]).toList = ps.toList ++ [rawInt pos.line, rawInt pos.col, .ref c1] := by simp
    refine new _ c1 _ ctv _ nc (Nat.ne_of_gt (Nat.lt_of_lt_of_le ltP le)) (by rw [el]; exact PySem.TriplesOk_snoc _ _ _ _ ht) (fun p cv hcv => ?_) ?_ (Heap.get?_push_size _ rfl) (Nat.ne_of_gt lt) (Nat.ne_of_gt (Nat.lt_of_lt_of_le ltP le2)) (J.hok.fresh le2) (ofs _ le2)
    · rw [el] at hcv
      exact LamX.among_app _ ht hcv
    · exact LamX.inv_table J hP (fun b o hb e => Heap.get?_push_of_some _ (keep b o hb e)) (Heap.get?_push_of_some _ got) le ⟨oc, us, t, Heap.get?_push_of_some _ hoc, hd, hv⟩
end

/-- a def that is handed a closure, by its name: what it makes (T) of what the closure does -/
structure GLam (P : Program) (w : World) (K : PySem.W.Frag) (mg : Str → Option Value) (base : Heap) (k : Nat) (x : Str) (T : (D → Mem → Prop) → XP → (D → Mem → Prop) → XP → Mem → Prop) : Prop where
  ex : ∃ (st : Stmt) (g : Addr) (fd : FuncData) (a : Str) (N : List Str), Fun K x x st g fd ∧ mg x = some (.ref g) ∧ FnScope N [a] (defScope st) ∧ N[0]? = some a ∧ Vis (defScope st) a ∧ (a == ("__debug__" : Str)) = false ∧ (a == ("__classdict__" : Str)) = false ∧ Binds K fd [a] [] ∧
    ∀ (cdv : Value) (A : Around) (outer : List Env) (s : Shared) (H : Hp) (E : XK), Room k (A.deeper (envOfC x (defScope st) s.heap.objs.size g cdv)) → ∀ (f : Addr) (R : Hp → Prop) (M : Mem) (Φl : D → Mem → Prop) (Ψl : XP) (Φ : D → Mem → Prop) (Ψ : XP), T Φl Ψl Φ Ψ M →
      (∀ (pn : List (Addr × Obj)) (xe : Value → Shared → Prop) (Γz : Sl) (p1 p2 : Pos), Γz[0]? = some (some (.cl f R)) → JE ((cxOf (L2.CX P w) P w K mg base N x (defScope st) g cdv A outer s H E).tr pn xe) Γz M (.Call (.Name a p1) [] [] p2) Φl Ψl) →
      JSs (cxOf (L2.CX P w) P w K mg base N x (defScope st) g cdv A outer s H E) (some (.cl f R) :: List.replicate (N.length - 1) none) M (defBody st) { nx := fun _ M' => Φ .non (M'.take M.length), rt := fun d M' => Φ d (M'.take M.length), ex := fun y _ M' => Ψ y (M'.take M.length) }

theorem set_same {M : Mem} {k : Nat} {p : Addr × Cell} (h : M[k]? = some p) : M.set k p = M := by
  refine List.ext_getElem? fun j => ?_
  by_cases hj : k = j
  · subst hj
    rw [List.getElem?_set_self (List.getElem?_eq_some_iff.mp h).1, h]
  · rw [List.getElem?_set_ne hj]
section
variable {X : Cx} {Γ : Sl} {M : Mem} {Φ : D → Mem → Prop} {Ψ : XP} {k kk : Nat}
/-- x(lambda: body) -/
theorem je_lam {x : Str} {T : (D → Mem → Prop) → XP → (D → Mem → Prop) → XP → Mem → Prop} {c P : Addr} {kt : Nat} {params : Arguments} {body : Expr} {scope : Scope} {lpos p pos : Pos} {Φl : D → Mem → Prop} {Ψl : XP} (G : GLam X.prog X.w X.K X.mg X.base (kk + 1) x T) (hr : Room (kk + 2) X.A)
    (tb : LamX.TabB X.base X.mg c P) (hcode : X.env.code = .ref c) (hM : M[kt]? = some (P, .tab (lamQ X))) (L : LamX.LamS X.env.scope scope)
    (lam : ∀ (A : Around) (outer : List Env) (s : Shared) (H : Hp) (E : XK) (c1 f L1 : Addr), Room kk (A.deeper (LamX.lamEnv X scope L1 f c1)) → L1 = s.heap.objs.size → JE (LamX.lamCx X A outer s H E scope f c1) Γ M body (fun d M1 => Φl d (M1.take M.length)) (fun x M1 => Ψl x (M1.take M.length)))
    (hT : T Φl Ψl Φ Ψ M) (hg : Gl X x := by rfl) (hdef : defaultsOf params X.env = ([], []) := by rfl)
    (bind0 : ∀ (q : Str) (cl : List (Str × Addr)) (pm cv ctv : Value), bindArgs (PySem.W.kla_fn "<lambda>" q params body scope cl pm cv ctv) ⟨[], []⟩ = pure [] := by intros; rfl) (hdb : (x == ("__debug__" : Str)) = false := by decide) :
    JE X Γ M (.Call (.Name x p) [.Lambda params body scope lpos] [] pos) Φ Ψ := fun B Hn H σ S A Q q pins s I => by
  obtain ⟨st, g, fd, a, N, F, hm, Sc, hN, hva, hd1, hd2, hb, hbody⟩ := G.ex
  have kp := F.kp
  obtain ⟨oc, od, kV, doc, pmg, an, cdv, ct, osl, rfl, lk, hcd⟩ := F.ex
  -- behind the making
  have go : ∀ (f c1 : Addr) (pm ctv : Value) (t : Shared) (Hn1 H1 : Hp), Inv X pins σ H1 t → SR X.K B M Γ Hn1 H1 σ → Same Hn Hn1 → t.heap.get? f = some (lamO X params body scope pm ctv c1) → H1 f = none → f ∉ frs X.stack → Hn1 c1 = some (LamX.CodeO c1 (lamQ X)) →
      wpAny (model X.prog X.w) X.A (PySem.call (.ref g) [.ref f]) (EP X pins σ Q) X.xe t := by
    intro f c1 pm ctv t Hn1 H1 J S1 e1 of nf rf hc1
    have cl1 : ClR X.K c1 (lamQ X) Γ σ Hn1 := ⟨hc1, S1.sl⟩
    refine wpAny_call (codeAny_mono (R := CR (L2.CX X.prog X.w) X.stack X.prog X.w H1 t Q (fun cls d H' => AirOk X cls d σ H')) ?_ fun r s' hq => ?_)
    · refine LamX.run_ofS (N := N) (ps := [a]) (us := [.ref f]) (vs := [.ref f]) lk hcd Sc (k := kk + 1) hr J.env0 (hb t [.ref f] J.kIn rfl) (.cons rfl .nil) rfl fun hr2 => ⟨_, pss_run, ?_⟩
      have hact : ∀ (pn : List (Addr × Obj)) (xe : Value → Shared → Prop) (Γz : Sl) (p1 p2 : Pos), Γz[0]? = some (some (.cl f (ClR X.K c1 (lamQ X) Γ σ))) → JE ((cxOf (L2.CX X.prog X.w) X.prog X.w X.K X.mg X.base N x (defScope st) g cdv X.A X.stack t H1 (fun cls d H' => AirOk X cls d σ H')).tr pn xe) Γz M (.Call (.Name a p1) [] [] p2) Φl Ψl := fun pn xe Γz p1 p2 hz =>
        je_act J L of nf rf (bind0 _ _ _ _ _) hr2 (fun A outer s H E hr3 => lam A outer s H E c1 f _ hr3 rfl) hz hN hva hd1 hd2
      have S2 : SR X.K ⟨Hn1, H1, M.map fun p : Addr × Cell => p.1⟩ M (some (.cl f (ClR X.K c1 (lamQ X) Γ σ)) :: List.replicate (N.length - 1) none) Hn1 H1 (L2.start N [.ref f]) := S1.inner fun i d hi => by
        cases i with
        | zero =>
          cases hi
          exact ⟨.ref f, rfl, .cl fun H2 e2 => cl1.mono e2⟩
        | succ i =>
          rw [List.getElem?_cons_succ, List.getElem?_replicate] at hi
          split at hi <;> cases hi
      refine hbody cdv X.A X.stack t H1 (fun cls d H' => AirOk X cls d σ H') hr2 f _ M Φl Ψl Φ Ψ hT hact (⟨Hn1, H1, M.map fun p : Addr × Cell => p.1⟩ : Bas) Hn1 H1 (L2.start N [.ref f]) S2 _ ⟨fun Γ' M' Hn' H' σ' p S' => ?_, fun Γ' M' Hn' H' σ' p => p.elim, fun Γ' M' Hn' H' σ' p => p.elim, fun v d M' Hn' H' p S' rv => ?_, fun y Γ' M' Hn' H' σ' cls dd p S' ri => ?_⟩
      · exact q .non .non _ Hn' H' p (S1.behind S') (e1.trans S'.step.nn) .non
      · exact q v d _ Hn' H' p (S1.behind S') (e1.trans S'.step.nn) rv
      · exact air_of (W := fun cls d _ H2 => AirOk X cls d σ H2) (takes_of rfl rfl rfl rfl) (A y _ Hn' H' cls dd p (S1.behind S') (e1.trans S'.step.nn) ri)
    · cases r with
      | error e => exact pass_air pins H1 t e s' J hq
      | ok fl =>
        cases fl with
        | ret u => exact J.after hq
        | next => exact False.elim hq
        | brk => exact False.elim hq
        | cont => exact False.elim hq
  have hcell := (S.rep.cell _ (List.mem_of_getElem? hM)).2
  obtain ⟨ps, hP, ht, hall⟩ := hcell
  have hP' : H P = some (.tbl ps) := hP
  refine wpAny_Call_Name_kw (ld_glob I hg hm ?_ hdb)
  refine PySem.W.callWith_K (h₀ := X.base) I.ok.mod.kin kp ?_ (by rfl) (by rfl)
  show wpAny _ _ (spliced ((false, eval (.Lambda params body scope lpos) X.env) :: backTo pos (starEach [] X.env))) _ _ s
  refine Calls.spliced_cons (lam_at I tb hcode hP' ht (fun p cv hc => ?_) hdef (L.has I.ok) (fun f c1 pm ctv t hc J of nf rf hco => ?_) fun f c1 pm ctv t nc ncP ht2 h2 J of nfc nfP nf rf => ?_)
  · obtain ⟨c1, e1, e2⟩ := hall p cv hc
    exact ⟨c1, e1, S.rep.sub _ _ e2⟩
  · refine Calls.spliced_nil ⟨J.kIn, ?_⟩
    obtain ⟨c2, e1, e2⟩ := hall _ _ hc
    cases e1
    exact go f c1 pm ctv t Hn H J S (Same.refl _) of nf rf e2
  · refine Calls.spliced_nil ⟨J.kIn, ?_⟩
    have nn : Hn c1 = none := S.rep.nn nc
    have sn := same_upd (o := LamX.CodeO c1 (lamQ X)) nn
    have S1 := S.alloc (o := LamX.CodeO c1 (lamQ X)) nc
    have S2 := S1.put (o := .tbl (ps ++ #[rawInt lpos.line, rawInt lpos.col, .ref c1])) (c' := .tab (lamQ X)) hM ⟨_, upd_same, ht2, fun p cv hcv => ?_⟩
    · rw [set_same hM, upd_swap ncP] at S2
      refine go f c1 pm ctv t _ _ J S2 sn of ?_ rf upd_same
      rw [upd_ne nfc, upd_ne nfP]
      exact nf
    · rcases h2 p cv hcv with z | z
      · obtain ⟨c2, e1, e2⟩ := hall p cv z
        exact ⟨c2, e1, sn _ _ e2⟩
      · exact ⟨c1, z, upd_same⟩
end
end DL
end

section
set_option Elab.async false
set_option linter.all false
set_option maxRecDepth 100000
set_option maxHeartbeats 4000000
/-! repr of data; defs that are run where no repr is under way. -/
namespace DL
open PySem PySem.Spec PyProof.Rows L2

section
variable {X : Cx} {M : Mem} {Φ : D → Mem → Prop}
def rShow (X : Cx) : List V → Hp → VK → Prop := fun xs H Q => ∃ (v : V) (d : PyData), xs = [v] ∧ Dp X.K H v d ∧ d.showable = true ∧ d.hasDict = false ∧ d.depth ≤ 100 ∧ d.shown.length ≤ sizeLine ∧ Q (.str d.shown) H
theorem call_show (hg : X.A.guards = some []) (hu : X.A.units + 200 < cLine) : CallR X (.builtin "repr") (rShow X) := by
  intro pins s σ H xs us Q J r h
  obtain ⟨v, d, rfl, hd, hs, hn, hp, hz, q⟩ := h
  cases r with
  | @cons _ u _ _ ru rest =>
    cases rest
    have fin : ∀ (h' : Heap) (t : Tok) (tk : Nat), (∀ b o, s.heap.get? b = some o → h'.get? b = some o) → EP X pins σ Q (.str d.shown t) { s with heap := h', toks := tk } := fun h' t tk k => ⟨.str d.shown, H, J.kept k, ⟨t, rfl⟩, q⟩
    have tok1 : ∀ (x : Str) (t : Tok), x = d.shown → EP X pins σ Q (.str x t) { s with toks := s.toks + 1 } := fun x t e => by
      subst e
      exact ⟨.str d.shown, H, J.tok _, ⟨t, rfl⟩, q⟩
    obtain ⟨as, rd⟩ := Dp.reads J d v u hd ru
    cases rd with
    | none => exact PySem.P.repr_of_none (tok1 _ _ (by simp only [PyData.shown]))
    | bool b => exact PySem.P.repr_of_bool (tok1 _ _ (by simp only [PyData.shown]))
    | int i t => exact PySem.P.repr_of_int (by simpa [PyData.showable] using hs) (tok1 _ _ (by simp only [PyData.shown]))
    | str x t => exact PySem.P.repr_of_str (tok1 _ _ (by simp only [PyData.shown])) (by simpa only [PyData.shown] using hz)
    | @list a o vs n ds as h1 h2 h3 h4 => exact PySem.repr_of_reads' (.list h1 h2 h3 h4) hs (fun e => by rw [hn] at e; cases e) hg (by omega) (fun _ _ e => e) fin hz
    | @tuple a o vs n ds as h1 h2 h3 h4 => exact PySem.repr_of_reads' (.tuple h1 h2 h3 h4) hs (fun e => by rw [hn] at e; cases e) hg (by omega) (fun _ _ e => e) fin hz
    | dict _ _ _ _ _ => simp [PyData.hasDict] at hn
mutual
theorem py_noDict : ∀ d : D, plain d = true → (py d).hasDict = false
  | .non, _ => by simp [py, PyData.hasDict]
  | .bl _, _ => by simp [py, PyData.hasDict]
  | .int _, _ => by simp [py, PyData.hasDict]
  | .str _, _ => by simp [py, PyData.hasDict]
  | .tup xs, h => by simp only [py, PyData.hasDict]; exact pyA_noDict xs (by simpa [plain] using h)
  | .lst xs, h => by simp only [py, PyData.hasDict]; exact pyA_noDict xs (by simpa [plain] using h)
  | .dK _, h => by simp [plain] at h
  | .dT _, h => by simp [plain] at h
  | .ins _ _, h => by simp [plain] at h
  | .raw _, h => by simp [plain] at h
  | .exc _ _ _ _, h => by simp [plain] at h
  | .cl _ _, h => by simp [plain] at h
theorem pyA_noDict : ∀ ds : List D, plainA ds = true → PyData.hasDictAll (pyA ds) = false
  | [], _ => by simp [pyA, PyData.hasDictAll]
  | d :: ds, h => by
    simp only [plainA, Bool.and_eq_true] at h
    simp only [pyA, PyData.hasDictAll, py_noDict d h.1, pyA_noDict ds h.2, Bool.or_self]
end
/-- repr(d) -/
theorem cd_repr {d : D} (hg : X.A.guards = some []) (hu : X.A.units + 200 < cLine) (hp : plain d = true) (hs : (py d).showable = true) (hd : (py d).depth ≤ 100) (hz : (py d).shown.length ≤ sizeLine) (h : Φ (.str (py d).shown) M) : CallD X (.builtin "repr") [d] M Φ := fun B Γ Hn H σ vs Q S rr q => by
  obtain ⟨v, rfl, r⟩ := rr.one
  exact ⟨_, call_show hg hu, v, py d, rfl, r.dp S.rep.sub hp, hs, py_noDict d hp, hd, hz, q _ _ _ _ _ h S (Same.refl _) (.str _)⟩
end

/-- a def, run where no repr is under way -/
structure FnG (P : Program) (w : World) (K : PySem.W.Frag) (mg : Str → Option Value) (base : Heap) (k : Nat) (f : Addr) (fd : FuncData) (ps : List Str) (sp : Sp) : Prop where
  run : ∀ (A : Around) (outer : List Env) (s : Shared) (H : Hp) (args : Args) (us : List Value) (vs : List V) (Q : VK) (E : XK), A.guards = some [] → Room k A → Env0 P w K mg base A outer s H → BindsTo s fd args (ps.zip us) → Vals vs us → vs.length = ps.length → sp vs H Q E →
    codeAny (model P w) A (.call (.ref f) args) (CR (L2.CX P w) outer P w H s Q E) s
theorem FnG.of {P : Program} {w : World} {K : PySem.W.Frag} {mg : Str → Option Value} {base : Heap} {k : Nat} {f : Addr} {fd : FuncData} {ps : List Str} {sp : Sp} (F : FnOk P w K mg base (L2.CX P w) k f fd ps sp) : FnG P w K mg base k f fd ps sp :=
  ⟨fun A outer s H args us vs Q E _ hr e0 hb r _ h => F.run A outer s H args us vs Q E hr e0 hb r h⟩

/-- the rule for such a def -/
theorem fn_dG {Pg : Program} {w : World} {K : PySem.W.Frag} {mg : Str → Option Value} {base : Heap} {x qual : Str} {st : Stmt} {f : Addr} {fd : FuncData} {N ps : List Str} {k : Nat} {spec : Spec} (F : Fun K x qual st f fd) (Sc : FnScope N ps (defScope st))
    (body : ∀ (cdv : Value) (A : Around) (outer : List Env) (s : Shared) (H : Hp) (E : XK), A.guards = some [] → Room k (A.deeper (envOfC qual (defScope st) s.heap.objs.size f cdv)) → PySem.W.codeIn K cdv qual = true → fd.code = cdv → ∀ ds M Φ Ψ, spec ds M Φ Ψ →
      JSs (cxOf (L2.CX Pg w) Pg w K mg base N qual (defScope st) f cdv A outer s H E) (ds.map some ++ List.replicate (N.length - ds.length) none) M (defBody st)
        { nx := fun _ M' => Φ .non (M'.take M.length), rt := fun d M' => Φ d (M'.take M.length), ex := fun x _ M' => Ψ x (M'.take M.length) }) : FnG Pg w K mg base (k + 1) f fd ps (spD K spec) := by
  obtain ⟨oc, od, kV, doc, pm, an, cdv, ct, osl, rfl, lk, hcd⟩ := F.ex
  refine ⟨fun A outer s H args us vs Q E hg hr e0 hb r hl h => ?_⟩
  refine LamX.run_ofS (N := N) (k := k) lk hcd Sc hr e0 hb r hl fun hr2 => ⟨_, pss_run, ?_⟩
  obtain ⟨ds, M, Hn, Φ, Ψ, ra, R, hsp, q, qx⟩ := h
  have S : SR K ⟨Hn, H, M.map fun p : Addr × Cell => p.1⟩ M (ds.map some ++ List.replicate (N.length - ds.length) none) Hn H (L2.start N vs) := by
    refine ⟨R, Step.refl, fun p hp => .inl (List.mem_map_of_mem hp), List.prefix_refl _, fun i d hi => ?_⟩
    unfold L2.start
    rcases Nat.lt_or_ge i ds.length with lt | ge
    · rw [List.getElem?_append_left (by rw [List.length_map]; exact lt), List.getElem?_map] at hi
      cases hd : ds[i]? with
      | none => rw [hd] at hi; cases hi
      | some d2 =>
        rw [hd] at hi
        cases hi
        obtain ⟨v, hv, rv⟩ := ra.get hd
        exact ⟨v, by rw [List.getElem?_append_left (by rw [List.length_map, ra.length]; exact lt), List.getElem?_map, hv]; rfl, rv⟩
    · rw [List.getElem?_append_right (by rw [List.length_map]; exact ge), List.getElem?_replicate] at hi
      split at hi <;> cases hi
  refine body cdv A outer s H E hg hr2 hcd rfl ds M Φ Ψ hsp (⟨Hn, H, M.map fun p : Addr × Cell => p.1⟩ : Bas) Hn H (L2.start N vs) S _ ⟨fun Γ' M' Hn' H' σ' p S' => ?_, fun Γ' M' Hn' H' σ' p => p.elim, fun Γ' M' Hn' H' σ' p => p.elim, fun v d M' Hn' H' p S' rv => ?_, fun x Γ' M' Hn' H' σ' cls dd p S' ri => ?_⟩
  · exact q .non .non _ Hn' H' p S'.left.1 S'.step S'.left.2 .non
  · exact q v d _ Hn' H' p S'.left.1 S'.step S'.left.2 rv
  · exact air_of (W := fun cls d _ H2 => E cls d H2) (takes_of rfl rfl rfl rfl) (qx x _ Hn' H' cls dd p S'.left.1 S'.step S'.left.2 ri)
end DL
end

section
set_option Elab.async false
set_option linter.all false
set_option maxRecDepth 100000
set_option maxHeartbeats 4000000
/-! The law's own def where no repr is under way: the end of a claim. -/
namespace DL
open PySem PySem.Spec PyProof.Rows L2

/-- the heap at the law's door: the tables at T, the script at a -/
def doorH (K : PySem.W.Frag) (T : List Addr) (a : Addr) (o : Obj) (ns : List Int) : Hp := fun b => if b ∈ T then some (.tbl #[]) else if b = a ∧ K.lookup a = none then some (.frz o (.lst (ns.map V.int))) else none
abbrev tab0 : Obj := { cls := .none, data := .fields #[] }
theorem law_at {P : Program} {w : World} {K : PySem.W.Frag} {mg mb : Str → Option Value} {k : Nat} {fa a : Addr} {cs : List (Addr × Addr)} {fd : FuncData} {x : Str} {sp : Sp} {s : Shared} {vs : List Value} {ns : List Int}
    (kin : K.In s.heap) (glob : s.heap.Ns mainGlobals mg) (blt : s.heap.Ns builtinsNs mb) (boot : ∀ y : Str, y ≠ "__name__" → mb y = bootBuiltins y) (lim : s.heap.NoLimit) (gens : s.gens = #[])
    (tabs : ∀ p ∈ cs, s.heap.get? p.2 = some tab0) (tabsK : ∀ p ∈ cs, K.lookup p.2 = none) (code : ∀ p ∈ cs, PySem.W.CodeHd s.heap p.1 p.2)
    (hbm : ∃ (bm : Addr) (ob : Obj), mg "__builtins__" = some (.ref bm) ∧ bm ≠ builtinsNs ∧ s.heap.get? bm = some ob ∧ ob.cls = .type "module" ∧ ob.dict = some builtinsNs ∧ ob.data = .plain)
    (script : s.heap.get? a = some { cls := .type "list", data := .seq vs.toArray }) (areI : IntsAre vs ns) (le : ns.length ≤ sizeLine) (room : Room k callerA)
    (F : ∀ base : Heap, K.In base → base.Ns mainGlobals mg → (∀ p ∈ cs, LamX.TabB base mg p.1 p.2) → FnG P w K mg base k fa fd [x] sp) (binds : ∀ (t : Shared) (u : Value), BindsTo t fd ⟨[u], []⟩ [(x, u)])
    (want : ∀ H : Hp, (∀ p ∈ cs, H p.2 = some (.tbl #[])) → (∀ b o, H b = some o → b = a ∨ b ∈ cs.map (·.2)) → SqL K H a (ns.map V.int) → sp [.ref a] H (fun v _ => v = .bl true) fun _ _ _ => False) :
    codeAny (model P w) callerA (.call (.ref fa) ⟨[.ref a], []⟩) (fun r t => r = .ok (.ret (.bool true)) ∧ OldK s.heap t.heap ∧ t.os = s.os ∧ AllBare t.gens) s := by
  have rel := vals_ints areI
  have lenV := areI.length
  have tabT : ∀ b ∈ cs.map (·.2), s.heap.get? b = some tab0 := fun b hb => by
    obtain ⟨p, hp, rfl⟩ := List.mem_map.mp hb
    exact tabs p hp
  have kT : ∀ b ∈ cs.map (·.2), K.lookup b = none := fun b hb => by
    obtain ⟨p, hp, rfl⟩ := List.mem_map.mp hb
    exact tabsK p hp
  have aT : a ∉ cs.map (·.2) := fun z => by
    have e := (tabT a z).symm.trans script
    have e2 : Data.fields #[] = Data.seq vs.toArray _ := congrArg Obj.data (Option.some.inj e)
    cases e2
  obtain ⟨H, eH⟩ : ∃ H : Hp, H = doorH K (cs.map (·.2)) a { cls := .type "list", data := .seq vs.toArray } ns := ⟨_, rfl⟩
  have look : ∀ b, (b ∈ cs.map (·.2) ∧ H b = some (.tbl #[])) ∨ (b = a ∧ K.lookup a = none ∧ H b = some (.frz { cls := .type "list", data := .seq vs.toArray } (.lst (ns.map V.int)))) ∨ (b ∉ cs.map (·.2) ∧ H b = none) := fun b => by
    subst eH
    by_cases h1 : b ∈ cs.map (·.2)
    · exact .inl ⟨h1, if_pos h1⟩
    · by_cases h2 : b = a ∧ K.lookup a = none
      · exact .inr (.inl ⟨h2.1, h2.2, (if_neg h1).trans (if_pos h2)⟩)
      · exact .inr (.inr ⟨h1, (if_neg h1).trans (if_neg h2)⟩)
  have tT : ∀ b ∈ cs.map (·.2), H b = some (.tbl #[]) := fun b hb => by
    rcases look b with ⟨_, z⟩ | ⟨z, _⟩ | ⟨z, _⟩
    · exact z
    · exact absurd hb (by rw [z]; exact aT)
    · exact absurd hb z
  have seqA : SqL K H a (ns.map V.int) := by
    cases hk : K.lookup a with
    | none =>
      rcases look a with ⟨z, _⟩ | ⟨_, _, z⟩ | ⟨_, z⟩
      · exact absurd z aT
      · exact .inl (.inr ⟨_, z⟩)
      · subst eH
        have z2 : doorH K (cs.map (·.2)) a { cls := .type "list", data := .seq vs.toArray } ns a = some (.frz { cls := .type "list", data := .seq vs.toArray } (.lst (ns.map V.int))) := (if_neg aT).trans (if_pos ⟨rfl, hk⟩)
        rw [z] at z2
        cases z2
    | some o =>
      obtain rfl : o = { cls := .type "list", data := .seq vs.toArray } := Option.some.inj ((kin a o hk).symm.trans script)
      exact .inr ⟨_, vs.toArray, _, hk, rfl, rfl, rfl, by rw [List.size_toArray, lenV]; exact le, by simpa using rel⟩
  have okH : HOk P w H s.heap := fun b u e => by
    rcases look b with ⟨hb, z⟩ | ⟨rfl, _, z⟩ | ⟨_, z⟩
    · rw [z] at e
      cases e
      exact tabT b hb
    · rw [z] at e
      cases e
      exact ⟨script, by rw [List.length_map]; exact le, vs, _, rel, script⟩
    · rw [z] at e
      cases e
  -- what is neither a list nor an empty table is not tracked
  have free : ∀ {b : Addr} {o : Obj}, s.heap.get? b = some o → (∀ n, o.data ≠ .seq vs.toArray n) → o.data ≠ .fields #[] → H b = none := fun {b o} e n1 n2 => by
    rcases look b with ⟨hb, _⟩ | ⟨rfl, _, _⟩ | ⟨_, z⟩
    · exact absurd (congrArg Obj.data (Option.some.inj (e.symm.trans (tabT b hb)))) n2
    · exact absurd (congrArg Obj.data (Option.some.inj (e.symm.trans script))) (n1 _)
    · exact z
  have down : ∀ {b : Addr} {o : Obj}, s.heap.get? b = some o → H b = none → (hidT s.heap H).get? b = some o := fun e n => hidT_get e n
  have nsDown : ∀ {b : Addr} {m : Str → Option Value}, s.heap.Ns b m → (hidT s.heap H).Ns b m := fun {b m} h => by
    obtain ⟨o, es, ep, e, d, r⟩ := h
    exact ⟨o, es, ep, down e (free e (by rw [d]; exact fun n z => by cases z) (by rw [d]; exact fun z => by cases z)), d, r⟩
  have kinB : K.In (hidT s.heap H) := fun b o e => down (kin b o e) (by
    rcases look b with ⟨hb, _⟩ | ⟨rfl, z, _⟩ | ⟨_, z⟩
    · rw [kT b hb] at e
      cases e
    · rw [z] at e
      cases e
    · exact z)
  have modB : L2.Mod K mg (hidT s.heap H) := ⟨kinB, nsDown glob, ⟨mb, nsDown blt, boot⟩, by
    obtain ⟨mc, l1, l2⟩ := lim
    exact ⟨mc, nsDown l1, l2⟩⟩
  have notG : ∀ b ∈ cs.map (·.2), mainGlobals ≠ b := fun b hb z => by
    obtain ⟨o, es, ep, e, d, _⟩ := glob
    rw [z, tabT b hb] at e
    cases e
    cases d
  have TB : ∀ p ∈ cs, LamX.TabB (hidT s.heap H) mg p.1 p.2 := fun p hp => by
    have hpT : p.2 ∈ cs.map (·.2) := List.mem_map_of_mem hp
    refine ⟨?_, ?_, notG _ hpT⟩
    · obtain ⟨o, us, file, tf, flags, tg, inF, text, tt, e1, r1, r2, r3, rest⟩ := code p hp
      refine ⟨o, us, file, tf, flags, tg, inF, text, tt, down e1 (free e1 (by rw [r2]; exact fun n z => by cases z) fun z => ?_), r1, r2, r3, rest⟩
      rw [r2] at z
      cases z
      simp at r3
    · obtain ⟨bm, ob, m1, m2, m3, m4, m5, m6⟩ := hbm
      refine ⟨bm, ob, m1, m2, fun z => ?_, fun z => ?_, down m3 (free m3 (by rw [m6]; exact fun n z => by cases z) (by rw [m6]; exact fun z => by cases z)), m4, m5, m6⟩
      · obtain ⟨o, es, ep, e, d, _⟩ := glob
        rw [z, e] at m3
        cases m3
        rw [d] at m6
        cases m6
      · rw [z, tabT _ hpT] at m3
        cases m3
        cases m6
  have e0 : Env0 P w K mg (hidT s.heap H) callerA [] s H := ⟨rfl, modB, fun b o e => of_hidT e, Nat.le_of_eq (hidT_size _ _), trivial, fun b hb => absurd hb (by simp [frs]), okH, .of_eq gens⟩
  have asked := want H (fun p hp => tT _ (List.mem_map_of_mem hp)) (fun b o e => by
    rcases look b with ⟨hb, _⟩ | ⟨hb, _, _⟩ | ⟨_, z⟩
    · exact .inr hb
    · exact .inl hb
    · rw [z] at e
      cases e) seqA
  refine codeAny_mono ((F _ kinB (nsDown glob) TB).run callerA [] s H ⟨[.ref a], []⟩ [.ref a] [.ref a] _ _ rfl room e0 (binds s (.ref a)) (.cons rfl .nil) rfl asked) fun r t hr => ?_
  cases r with
  | error e =>
    obtain ⟨_, _, _, _, _, _, _, _, _, _, _, _, z⟩ := hr
    exact z.elim
  | ok fl =>
    cases fl with
    | ret u =>
      obtain ⟨v, H2, os, bare, un, ok2, ru, q⟩ := hr
      have q2 : v = .bl true := q
      subst q2
      obtain rfl : u = Value.bool true := ru
      have stay : ∀ b o, b ∉ cs.map (·.2) → s.heap.get? b = some o → t.heap.get? b = some o := fun b o nb e => by
        rcases look b with ⟨hb, _⟩ | ⟨rfl, _, z⟩ | ⟨_, z⟩
        · exact absurd hb nb
        · obtain ⟨e2, _⟩ := ok2 b _ (un.frzs b _ _ z)
          rw [script] at e
          cases e
          exact e2
        · exact un.keep b o e z (fun z => nomatch (show b ∈ ([] : List Addr) from z)) (by simp)
      have more : ∀ b ∈ cs.map (·.2), ∃ m : Array Value, t.heap.get? b = some { cls := .none, data := .fields m } := fun b hb => by
        obtain ⟨m, z⟩ := un.tbls b #[] (tT b hb)
        exact ⟨_, ok2 b _ z⟩
      refine ⟨rfl, ⟨fun b o e => ?_, fun b o e => ?_⟩, os, bare⟩
      · by_cases hb : b ∈ cs.map (·.2)
        · obtain ⟨m, hm⟩ := more b hb
          obtain ⟨p, hp, rfl⟩ := List.mem_map.mp hb
          rw [tabs p hp] at e
          cases e
          exact .inr (.inl ⟨((code p hp).tab (tabs p hp)).isCodeTable, rfl, #[], m, rfl, by rw [Array.empty_append]; exact hm⟩)
        · exact .inl (stay b o hb e)
      · by_cases hb : b ∈ cs.map (·.2)
        · obtain ⟨m, hm⟩ := more b hb
          exact ⟨_, hm⟩
        · exact ⟨o, stay b o hb e⟩
    | next => exact False.elim hr
    | brk => exact False.elim hr
    | cont => exact False.elim hr
end DL
namespace DL
open PySem PySem.Spec PyProof.Rows L2
/-- the end of a claim whose law asks repr, or makes lambdas (their tables: cs) -/
theorem walk_ofG {l : PySem.W.OpenLaw} {n k : Nat} {q : Program} {loose : List Str} {XP : (Str → Option Value) → Heap → Prop} {YP : World → Heap → Prop} {d : DefRec} {K : Params → PySem.W.Frag} {sp : World → Sp} {x : Str} {cs : World → List (Addr × Addr)}
    (most : l.most = some n) (mostLine : n ≤ sizeLine) (noDflt : d.params.defaults = []) (room : Room k callerA) (kinY : ∀ (w : World) (h : Heap), YP w h → (K w.params).In h)
    (tables : ∀ (w : World), ∀ p ∈ cs w, (∃ y e, (recsOf q).find? (fun e : DefRec => e.name == y) = some e ∧ PySem.W.tabIn (K w.params) y = some p) ∧ (K w.params).lookup p.2 = none)
    (F : ∀ (w : World) (mg : Str → Option Value) (fa : Addr) (h : Heap), (K w.params).In h → h.Ns mainGlobals mg → mg d.name = some (.ref fa) → ∃ fd : FuncData, (∀ (s : Shared) (u : Value), BindsTo s fd ⟨[u], []⟩ [(x, u)]) ∧
      ∀ base : Heap, (K w.params).In base → base.Ns mainGlobals mg → (∀ p ∈ cs w, LamX.TabB base mg p.1 p.2) → FnG l.prog w (K w.params) mg base k fa fd [x] (sp w))
    (want : ∀ (w : World) (H : Hp) (a : Addr) (ns : List Int), ns.length ≤ n → (∀ z ∈ ns, Builtin.Int.intBits z ≤ 1048576) → (∀ p ∈ cs w, H p.2 = some (.tbl #[])) → (∀ b o, H b = some o → b = a ∨ b ∈ (cs w).map (·.2)) → SqL (K w.params) H a (ns.map V.int) → sp w [.ref a] H (fun v _ => v = .bl true) fun _ _ _ => False) :
    PySem.W.WalkO q loose XP YP l.row.toRowW d [] (fun f vs => PySem.call f vs) := by
  refine Att.attach_callB most noDflt fun w t0 t1 mg mb fa o pm cd doc a vs ns G Y ho hd hcd hmg script areI len bits gens => ?_
  have kin := kinY w _ Y
  obtain ⟨fd, binds, okF⟩ := F w mg fa _ kin G.T.g hmg
  have tb : ∀ p ∈ cs w, PySem.W.CodeHd t1.heap p.1 p.2 ∧ t1.heap.get? p.2 = some tab0 := fun p hp => by
    obtain ⟨⟨y, e, hy, ht⟩, _⟩ := tables w p hp
    exact PySem.W.tab_of G.T kin hy ht
  exact law_at kin G.T.g G.T.b G.T.builtins G.T.nolimit gens (fun p hp => (tb p hp).2) (fun p hp => (tables w p hp).2) (fun p hp => (tb p hp).1) G.T.bmain script areI (Nat.le_trans len mostLine) room okF binds fun H h1 h2 h3 => want w H a ns len bits h1 h2 h3
end DL
end

section
set_option Elab.async false
set_option linter.all false
set_option maxRecDepth 100000
set_option maxHeartbeats 4000000
/-! x < y of numbers, texts, and tuples of such. -/
namespace DL
open PySem PySem.Spec PyProof.Rows L2

def cm : Nat → D → D → Bool
  | _, .int _, .int _ => true
  | _, .str _, .str _ => true
  | n + 1, .tup xs, .tup ys => (List.range (min xs.length ys.length)).all fun j => fit (xs.getD j .non) && fit (ys.getD j .non) && cm n (xs.getD j .non) (ys.getD j .non)
  | _, _, _ => false
def ltn : Nat → D → D → Bool
  | _, .int i, .int j => decide (i < j)
  | _, .str x, .str y => decide (x.cps.toList < y.cps.toList)
  | n + 1, .tup xs, .tup ys => Ob.lexAt (fun j => eqd (xs.getD j .non) (ys.getD j .non)) (fun j => ltn n (xs.getD j .non) (ys.getD j .non)) (decide (xs.length < ys.length)) 0 (min xs.length ys.length)
  | _, _, _ => false
theorem Vals.at_ {vs : List V} {us : List Value} (r : Vals vs us) : ∀ {j : Nat} {u : Value}, us[j]? = some u → ∃ v, vs[j]? = some v ∧ RelV v u := by
  induction r with
  | nil => intro j u e; simp at e
  | cons h _ ih =>
    intro j u e
    cases j with
    | zero =>
      cases e
      exact ⟨_, rfl, h⟩
    | succ j => exact ih (by simpa using e)
section
variable {X : Cx} {pins : List (Addr × Obj)} {σ : L2.St} {Hn H : Hp} {s : Shared}
theorem eq_at (J : Inv X pins σ H s) (e : Same Hn H) {A : Around} (hu : A.units + 64 < cLine) {x y : D} {v u : V} {a b : Value} (fx : fit x = true) (fy : fit y = true) (ix : Is X.K Hn v x) (iy : Is X.K Hn u y) (ra : RelV v a) (rb : RelV u b) : SeqAt.EqAt A s a b (eqd x y) := by
  obtain ⟨p1, s1⟩ := Bool.and_eq_true_iff.mp fx
  obtain ⟨p2, s2⟩ := Bool.and_eq_true_iff.mp fy
  obtain ⟨as, r1⟩ := Dp.reads J _ _ _ (ix.dp e p1) ra
  obtain ⟨bs, r2⟩ := Dp.reads J _ _ _ (iy.dp e p2) rb
  exact SeqAt.eqAt_reads _ _ A s a b as bs r1 r2 (SeqAt.canLay_of_shaped s1) (SeqAt.canLay_of_shaped s2) (SeqAt.room_of_shaped s1 hu)
theorem lt_run (J : Inv X pins σ H s) (e : Same Hn H) : ∀ (n : Nat) (A : Around), A.units + 65 + n < cLine → ∀ (x y : D) (v u : V) (a b : Value), cm n x y = true →
    Is X.K Hn v x → Is X.K Hn u y → RelV v a → RelV u b → Ob.RcOp .Lt A s a b (ltn n x y) := by
  intro n
  induction n with
  | zero =>
    intro A hu x y v u a b hc ix iy ra rb
    cases x <;> cases y <;> first | (simp [cm] at hc; done) | skip
    · cases ix; cases iy
      obtain ⟨t, rfl⟩ := ra
      obtain ⟨t2, rfl⟩ := rb
      exact Ob.RcOp.lt_int _ _ _ _
    · cases ix; cases iy
      obtain ⟨t, rfl⟩ := ra
      obtain ⟨t2, rfl⟩ := rb
      exact fun _ _ _ _ h => lt_str h
  | succ n ih =>
    intro A hu x y v u a b hc ix iy ra rb
    cases x <;> cases y <;> first | (simp [cm] at hc; done) | skip
    · cases ix; cases iy
      obtain ⟨t, rfl⟩ := ra
      obtain ⟨t2, rfl⟩ := rb
      exact Ob.RcOp.lt_int _ _ _ _
    · cases ix; cases iy
      obtain ⟨t, rfl⟩ := ra
      obtain ⟨t2, rfl⟩ := rb
      exact fun _ _ _ _ h => lt_str h
    · rename_i xs ys
      cases ix with
      | @tup a1 ws _ h1 r1 =>
        cases iy with
        | @tup b1 zs _ h2 r2 =>
          obtain rfl : a = Value.ref a1 := ra
          obtain rfl : b = Value.ref b1 := rb
          obtain ⟨its, v1, t1, _⟩ := J.tuple (same_t e h1)
          obtain ⟨its2, v2, t2, _⟩ := J.tuple (same_t e h2)
          have l1 : its.toArray.size = xs.length := by rw [List.size_toArray, ← r1.length]; exact (v1.length).symm
          have l2 : its2.toArray.size = ys.length := by rw [List.size_toArray, ← r2.length]; exact (v2.length).symm
          have item1 : ∀ j (h : j < its.toArray.size), ∃ w, RelV w its.toArray[j] ∧ Is X.K Hn w (xs.getD j .non) ∧ xs.getD j .non ∈ xs := fun j h => by
            have ej : its[j]? = some its.toArray[j] := by rw [List.getElem?_eq_getElem (by simpa using h)]; rfl
            obtain ⟨w, hw, rw1⟩ := Vals.at_ v1 ej
            obtain ⟨d, hd, iw⟩ := r1.get' hw
            have ed : xs.getD j .non = d := by rw [List.getD_eq_getElem?_getD, hd]; rfl
            exact ⟨w, rw1, by rw [ed]; exact iw, by rw [ed]; exact List.mem_of_getElem? hd⟩
          have item2 : ∀ j (h : j < its2.toArray.size), ∃ w, RelV w its2.toArray[j] ∧ Is X.K Hn w (ys.getD j .non) ∧ ys.getD j .non ∈ ys := fun j h => by
            have ej : its2[j]? = some its2.toArray[j] := by rw [List.getElem?_eq_getElem (by simpa using h)]; rfl
            obtain ⟨w, hw, rw1⟩ := Vals.at_ v2 ej
            obtain ⟨d, hd, iw⟩ := r2.get' hw
            have ed : ys.getD j .non = d := by rw [List.getD_eq_getElem?_getD, hd]; rfl
            exact ⟨w, rw1, by rw [ed]; exact iw, by rw [ed]; exact List.mem_of_getElem? hd⟩
          have all : ∀ j, j < min xs.length ys.length → fit (xs.getD j .non) = true ∧ fit (ys.getD j .non) = true ∧ cm n (xs.getD j .non) (ys.getD j .non) = true := fun j hj => by
            simp only [cm, List.all_eq_true, List.mem_range, Bool.and_eq_true, and_assoc] at hc
            exact hc j hj
          have R := Ob.RcOp.tuples_lt (A := A) (s := s) (e := fun j => eqd (xs.getD j .non) (ys.getD j .non)) (r := fun j => ltn n (xs.getD j .non) (ys.getD j .non)) t1 t2 (by omega) (fun j k1 k2 => by
            obtain ⟨w1, q1, i1, _⟩ := item1 j k1
            obtain ⟨w2, q2, i2, _⟩ := item2 j k2
            obtain ⟨f1, f2, _⟩ := all j (by omega)
            exact eq_at J e (by show A.units + 1 + 64 < cLine; omega) f1 f2 i1 i2 q1 q2) (fun j k1 k2 _ => by
            obtain ⟨w1, q1, i1, _⟩ := item1 j k1
            obtain ⟨w2, q2, i2, _⟩ := item2 j k2
            exact ih A.in1 (by show A.units + 1 + 65 + n < cLine; omega) _ _ w1 w2 _ _ (all j (by omega)).2.2 i1 i2 q1 q2)
          rw [l1, l2] at R
          exact R
end
section
variable {X : Cx} {M : Mem} {Φ : D → Mem → Prop}
def rLtn (K : PySem.W.Frag) (n : Nat) : R2 := fun v u H Q => ∃ (Hn : Hp) (x y : D), Same Hn H ∧ Is K Hn v x ∧ Is K Hn u y ∧ cm n x y = true ∧ Q (.bl (ltn n x y)) H
theorem op_ltn (n : Nat) (hu : X.A.units + 65 + n < cLine) : OpR X (compareOp .Lt) (rLtn X.K n) := by
  intro pins s σ H x y v u Q J rx ry h
  obtain ⟨Hn, dx, dy, e, ix, iy, hc, q⟩ := h
  exact lt_run J e n X.A hu dx dy x y v u hc ix iy rx ry _ _ _ _ ⟨.bl _, H, J, rfl, q⟩
/-- x < y -/
theorem opd_ltn (n : Nat) {x y : D} (hu : X.A.units + 65 + n < cLine) (hc : cm n x y = true) (h : Φ (.bl (ltn n x y)) M) : OpD X (compareOp .Lt) x y M Φ := fun B Γ Hn H σ v u Q S rx ry q =>
  ⟨_, op_ltn n hu, Hn, x, y, S.rep.sub, rx, ry, hc, q _ _ _ _ _ h S (Same.refl _) (.bl _)⟩
end
end DL
end

section
set_option Elab.async false
set_option linter.all false
set_option maxRecDepth 100000
set_option maxHeartbeats 4000000
/-! A def that stands in a slot is called. -/
namespace DL
open PySem PySem.Spec PyProof.Rows L2

/-- the def at f, its promise -/
structure GFv (P : Program) (w : World) (K : PySem.W.Frag) (mg : Str → Option Value) (base : Heap) (k : Nat) (f : Addr) (spec : Spec) : Prop where
  ex : ∃ (fd : FuncData) (ps : List Str), FnOk P w K mg base (L2.CX P w) k f fd ps (spD K spec) ∧ PySem.W.keepIn K (.ref f) = true ∧ Binds K fd ps []
section
variable {X : Cx} {Γ : Sl} {M : Mem} {Φ : D → Mem → Prop} {Ψ : XP} {e : Expr} {es : List Expr} {pos p : Pos} {spec : Spec} {k : Nat}
theorem pe_callVS {CX : CXT} {f : Addr} {fd : FuncData} {ps : List Str} {sp : Sp} {E : L2.St → XK} {t : TA} {x : Str} (i : Nat) (F : FnOk X.prog X.w X.K X.mg X.base CX k f fd ps sp) (hr : Room k X.A) (hN : X.N[i]? = some x) (hv : Vis X.env.scope x) (hk : PySem.W.keepIn X.K (.ref f) = true) (hb : Binds X.K fd ps [])
    (hx : ∀ σ, PassesAt CX X σ (E σ)) (ha : PA X (e :: es) t) (hd : (x == ("__debug__" : Str)) = false := by decide) (hcd : (x == ("__classdict__" : Str)) = false := by decide) (he : starEach (e :: es) X.env = (false, eval e X.env) :: starEach es X.env := by rfl) (hpl : (backTo pos (starEach es X.env)).any (·.1) = false := by rfl) :
    PE X (.Call (.Name x p) (e :: es) [] pos) (fun σ H Q => σ[i]? = some (some (.ref f)) ∧ t σ H fun vs H1 => sp vs H1 Q (E σ)) := by
  refine ⟨fun pins s σ H Q J h => ?_⟩
  refine wpAny_Call_Name_kw (thn ((pe_var (pos := p) (i := i) hN hv hd hcd).run pins s σ H (fun y Hy => y = .ref f ∧ Hy = H) J ⟨.ref f, h.1, rfl, rfl⟩) fun u1 t1 hu1 => ?_)
  obtain ⟨y, Hy, J1, ry, ey, eHy⟩ := hu1
  subst ey
  subst eHy
  obtain rfl : u1 = Value.ref f := ry
  refine PySem.W.callWith_K (h₀ := X.base) J.ok.mod.kin hk (thn (ha.run pos pins t1 σ Hy _ J1 h.2) fun us s2 hu => ?_) he hpl
  obtain ⟨vs, H2, J2, r, q⟩ := hu
  refine ⟨J2.kIn, ?_⟩
  have q2 : sp (vs ++ []) H2 Q (E σ) := by rw [List.append_nil]; exact q
  exact run_fnSD F hr hb .nil (hx σ) J2 r q2
/-- x(e, ..), the slot i holding the def at f -/
theorem je_callV (i : Nat) {f : Addr} {x : Str} (G : GFv X.prog X.w X.K X.mg X.base k f spec) (hr : Room k X.A) (hΓ : Γ[i]? = some (some (.raw (.ref f)))) (h : JA X Γ M (e :: es) (fun ds M1 => Use spec ds M1 Φ Ψ) Ψ) (hN : X.N[i]? = some x := by rfl)
    (hv : Vis X.env.scope x := by first | exact Or.inl rfl | exact Or.inr (Or.inl rfl) | exact Or.inr (Or.inr rfl)) (hd : (x == ("__debug__" : Str)) = false := by decide) (hcd : (x == ("__classdict__" : Str)) = false := by decide)
    (he : starEach (e :: es) X.env = (false, eval e X.env) :: starEach es X.env := by rfl) (hpl : (backTo pos (starEach es X.env)).any (·.1) = false := by rfl) : JE X Γ M (.Call (.Name x p) (e :: es) [] pos) Φ Ψ := fun B Hn H σ S A Q q => by
  obtain ⟨fd, ps, F, hk, hb⟩ := G.ex
  refine run_pe (pe_callVS i (E := fun σ cls d H' => AirOk X cls d σ H') F hr hN hv hk hb (fun σ => pass_air) pa_run hd hcd he hpl) ?_
  obtain ⟨v, hv1, r1⟩ := S.sl i _ hΓ
  cases r1
  refine ⟨hv1, ?_⟩
  refine h B Hn H σ S A _ fun vs ds M1 Hn1 H1 p1 S1 e1 r1 => ?_
  exact p1.sp S1 (A.mono e1) r1 fun z d M' Hn' H' p2 S2 e2 r2 => q z d M' Hn' H' p2 S2 (e1.trans e2) r2
end
section
variable {X : Cx} {Γ : Sl} {M : Mem} {P : Post} {e o : Expr} {pos pos' : Pos}
/-- self.f += e, self a cell, numbers -/
theorem js_fldaddI (k : Nat) {f : Str} (h : JE X Γ M o (fun x M1 => ∃ t C fs i, x = .raw (.ref t) ∧ M1[k]? = some (t, .ins C fs) ∧ Cls X.K C ∧ NoAttr X.K C f ∧ fs.lookup f = some (.int i) ∧
      JE X Γ M1 e (fun d M2 => ∃ (j : Int) (gs : List (Str × D)), d = .int j ∧ M2[k]? = some (t, .ins C gs) ∧ gs.length < 900 ∧ P.nx Γ (M2.set k (t, .ins C (putD f (.int (i + j)) gs)))) (fun x M1 => P.ex x Γ M1)) (fun x M1 => P.ex x Γ M1)) :
    JS X Γ M (.AugAssign (.Attribute o f pos') .Add e pos) P := fun B Hn H σ S De ok => by
  refine run_ps (ps_fldaug pe_run pe_run in_add) ?_
  refine h B Hn H σ S ok.air _ fun w x M1 Hn1 H1 p1 S1 e1 r1 => ?_
  obtain ⟨t, C, fs, i, rfl, hk, c, n, hl, p1⟩ := p1
  cases r1
  obtain ⟨dx, gs, h1, rf⟩ := (S1.rep.cell _ (List.mem_of_getElem? hk)).2
  obtain ⟨v, hv, rv⟩ := rf.get hl
  cases rv
  refine ⟨t, C, dx, gs, .int i, rfl, h1, c, n, hv, ?_⟩
  refine p1 B Hn1 H1 σ S1 ok.air _ fun u y M2 Hn2 H2 p2 S2 e2 r2 => ?_
  obtain ⟨j, gs2, rfl, hk2, hlen, p2⟩ := p2
  cases r2
  obtain ⟨dx2, ws, h2, rf2⟩ := (S2.rep.cell _ (List.mem_of_getElem? hk2)).2
  exact ⟨i, j, rfl, rfl, dx2, ws, h2, by rw [rf2.length]; omega, ok.nx _ _ _ _ _ p2 (S2.put hk2 ⟨dx2, _, upd_same, rf2.put (.int (i + j))⟩)⟩
end
end DL
end

section
set_option Elab.async false
set_option linter.all false
set_option maxRecDepth 100000
set_option maxHeartbeats 4000000
/-! try with several clauses, each with a name for what is caught. -/
namespace DL
open PySem PySem.Spec PyProof.Rows L2

abbrev Endi (i : Nat) (D : Ends) : Ends := { nx := fun σ' H' => D.nx (σ'.set i none) H', rt := D.rt, bk := fun σ' H' => D.bk (σ'.set i none) H', ct := fun σ' H' => D.ct (σ'.set i none) H' }
/-- what the clauses wish of an exception, one behind the other -/
def wList (K : PySem.W.Frag) (i : Nat) (Wout : WX) (D : Ends) : List (Value × (Addr → Value → Option Addr → TS)) → WX
  | [] => Wout
  | p :: more => fun cls d σ H => ∃ b, PySem.W.exmOne K cls p.1 = some b ∧ (b = true → ∀ a, H a = none → p.2 a cls d (Endi i D) (σ.set i (some (.ref a))) H) ∧ (b = false → wList K i Wout D more cls d σ H)
inductive Clauses (X : Cx) (n : Str) : List ExceptHandler → List (Value × (Addr → Value → Option Addr → TS)) → Prop
  | nil : Clauses X n [] []
  | cons {x : Str} {c : Value} {ts : Addr → Value → Option Addr → TS} {b0 : Stmt} {suite : List Stmt} {p1 p2 : Pos} {hds : List ExceptHandler} {l : List (Value × (Addr → Value → Option Addr → TS))} (nm : Names X x c)
      (run : ∀ (a : Addr) (ob : Obj) (cls : Value) (d : Option Addr) (pn : List (Addr × Obj)), Zc cls d ob → (∃ fv, ob.data = .fields fv) → PSs (X.suite a ((a, ob) :: pn)) (b0 :: suite) (ts a cls d)) (more : Clauses X n hds l) :
      Clauses X n (.ExceptHandler (some (.Name x p1)) (some n) (b0 :: suite) p2 :: hds) ((c, ts) :: l)
section
variable {X : Cx} {n : Str} {i : Nat} {body : List Stmt} {h0 : ExceptHandler} {hds : List ExceptHandler} {l : List (Value × (Addr → Value → Option Addr → TS))} {pos : Pos} {tb : WX → TS} {Wout : WX}
theorem ps_try_list (stk : X.stack = X.env :: X.outer) (frm : X.env.frame = some X.env.locals) (nod : X.N.Nodup) (ni : X.N[i]? = some n) (nl : X.env.kindOf n = some .local) (tk : Takes X Wout)
    (try_ : ∀ (W : WX) (pn : List (Addr × Obj)) (xe : Value → Shared → Prop), Takes (X.tr pn xe) W → PassesOwn (model X.prog X.w) X.A X.env xe → PSs (X.tr pn xe) body (tb W))
    (cl : Clauses X n (h0 :: hds) l) : PS X (.Try body (h0 :: hds) [] [] pos) (fun D σ H => tb (wList X.K i Wout D l) D σ H) := by
  refine ⟨fun pins s σ H D I h => ?_⟩
  have iok := I.ok
  have afr : X.A.frames = some (X.env :: X.outer) := by rw [iok.frames, stk]
  refine wpAny_Try_except ?_
  refine wpAny_mono ((try_ (wList X.K i Wout D l) (X.pn ++ pins) (fun e t1 => wpAny (model X.prog X.w) X.A (noteFrame e X.env) (fun _ t2 => wpAny (model X.prog X.w) X.A (setFlight e none) (fun _ t3 => wpAny (model X.prog X.w) X.A (handleBy e X.env (h0 :: hds)) (SP X pins D) X.xe t3) X.xe t2) X.xe t1) (fun u t air => ?_) PassesOwn.looking).run [] s σ H D (I.toTry _) h) (fun fl t1 hfl => ?_) fun _ _ z => z
  · obtain ⟨a, B, tI, ps, σ1, H1, cls, d, rfl, J1, unb, upb, sky, free, same, bare, wish⟩ := air
    have J : Inv X pins σ1 H1 tI := J1.ofTry iok
    rw [stk] at sky
    show wpAny (model X.prog X.w) X.A (noteFrame (.ref a) X.env) _ _ _
    refine Sky.land Zc.steady afr frm sky fun hp fly upc => ?_
    have J2 : Inv X pins σ1 H1 { t with heap := hp } := J.landed unb fly.1 (upb.trans upc) same bare
    obtain ⟨ob, fv, got, zc, dat⟩ := fly.there
    have off : a ∉ frs (X.env :: X.outer) := fun hm => by
      obtain ⟨_, ob2, got2, nf⟩ := (fly.2.2.1).mem hm
      rw [got] at got2
      cases got2
      exact nf _ dat
    have offL : a ≠ X.env.locals := fun z => off (List.mem_filterMap.mpr ⟨X.env, List.mem_cons_self, frm.trans (congrArg some z.symm)⟩)
    have offS : a ∉ X.fs := fun hm => by
      obtain ⟨e, he, q⟩ := List.mem_filterMap.mp hm
      exact off (List.mem_filterMap.mpr ⟨e, List.mem_cons_of_mem _ he, q⟩)
    have S1 := J2.suite got dat free offL offS
    have each : ∀ {hs : List ExceptHandler} {ls : List (Value × (Addr → Value → Option Addr → TS))}, Clauses X n hs ls → wList X.K i Wout D ls cls d σ1 H1 → wpAny (model X.prog X.w) X.A (handleBy (.ref a) X.env hs) (SP X pins D) X.xe { t with heap := hp } := by
      intro hs ls ck
      induction ck with
      | nil =>
        intro wz
        refine wpAny_handleBy_nil ?_
        obtain ⟨_, _, _, ob3, fv3, T, oT, ts3, got3, zc3, dat3, fst3, rest3⟩ := id fly
        simp only [PySem.passOn]
        refine wpAny_bind (wpAny_field got3 dat3 fst3 ?_)
        rw [if_neg (show ¬ ((Value.ref T == Value.none) = true) by simp)]
        have away : wpAny (model X.prog X.w) X.A (setFlight (.ref a) X.env.frame) (fun _ t4 => wpAny (model X.prog X.w) X.A (throw (.ref a) : Sem Flow) (SP X pins D) X.xe t4) X.xe { t with heap := hp } := by
          rw [frm]
          refine HandSPX.setFlight_upZ fly fun hq hh upd_ => wpAny_throw (tk _ _ ?_)
          exact ⟨a, B, tI, pins, σ1, H1, cls, d, rfl, J, unb, (upb.trans upc).trans upd_, .inr (.inr (by rw [stk]; exact hh)), free, same, bare, wz⟩
        first | exact wpAny_bind (wpAny_pure (wpAny_bind away)) | exact wpAny_bind away
      | @cons x c ts b0 suite p1 p2 hds2 l2 nm run more ih =>
        intro wz
        obtain ⟨b, ask, yes, no⟩ := wz
        refine wpAny_handleBy_cons (codeAny_handlers_test ?_) (by intro z; cases z)
        have ty : PySem.W.Looks (model X.prog X.w) hp (typeOf (.ref a)) cls := fun A Q E s k q => wpAny_typeOf_ref (k _ _ got) (by rw [zc.1]; exact q)
        have sees := PySem.W.exm_one (M := model X.prog X.w) (J2.kIn) ty ask
        have named : ∀ {Q E : Value → Shared → Prop}, Q c { t with heap := hp } → wpAny (model X.prog X.w) (X.A.mark (some (.ref a))) (eval (.Name x p1) X.env) Q E { t with heap := hp } := fun {Q E} q => by
          obtain ⟨g1, g2, g3 | ⟨g3, g4, g5⟩⟩ := nm
          · exact ld_glob (X := X.suite a ((a, ob) :: (X.pn ++ pins))) S1 g1 g3 q g2
          · exact ld_blt (X := X.suite a ((a, ob) :: (X.pn ++ pins))) S1 g1 g3 g4 q g5 g2
        refine named (sees.here ?_)
        cases b with
        | false =>
          show wpAny _ X.A (handleBy (.ref a) X.env hds2) _ _ _
          exact ih (no rfl)
        | true =>
          refine codeAny_handlers_suite_as (HandSPX.lands_againZ fly fun hp2 fly2 upe => ?_)
          have J3 : Inv X pins σ1 H1 { t with heap := hp2 } := J.landed unb fly2.1 ((upb.trans upc).trans upe) same bare
          obtain ⟨ob2, fv2, got2, zc2, dat2⟩ := fly2.there
          refine store_ok (X := X.suite a ((a, ob2) :: (X.pn ++ pins))) (v := .ref a) (J3.suite got2 dat2 free offL offS) nod ni (.inl nl) rfl (fun t5 S5 => ?_) (.inr nl)
          refine wpAny_mono ((run a ob2 cls d (X.pn ++ pins) zc2 ⟨_, dat2⟩).run [] t5 _ H1 _ S5 (yes rfl a free)) (fun fl t6 hfl => ?_) fun _ _ z => False.elim z
          have close : ∀ {σ6 : L2.St} {H6 : Hp} {Q : Shared → Prop}, Inv (X.suite a ((a, ob2) :: (X.pn ++ pins))) [] σ6 H6 t6 → (∀ t7, Inv X pins (σ6.set i none) H6 t7 → Q t7) → wpAny (model X.prog X.w) X.A (do bindName X.env n .none; unbindBehindTheSuite X.env n p2) (fun _ t7 => Q t7) X.xe t6 := fun S6 hq => gone_ok (S6.unsuite iok) nod ni nl hq
          cases fl with
          | ret u =>
            obtain ⟨v6, σ6, H6, S6, r6, q6⟩ := hfl
            exact close S6 fun t7 J7 => ⟨_, _, _, J7, r6, q6⟩
          | next =>
            obtain ⟨σ6, H6, S6, q6⟩ := hfl
            exact close S6 fun t7 J7 => ⟨_, _, J7, q6⟩
          | brk =>
            obtain ⟨σ6, H6, S6, q6⟩ := hfl
            exact close S6 fun t7 J7 => ⟨_, _, J7, q6⟩
          | cont =>
            obtain ⟨σ6, H6, S6, q6⟩ := hfl
            exact close S6 fun t7 J7 => ⟨_, _, J7, q6⟩
    exact each cl wish
  · cases fl with
    | ret u =>
      obtain ⟨v, σ2, H2, J2, r, q⟩ := hfl
      exact ⟨v, σ2, H2, J2.ofTry iok, r, q⟩
    | next =>
      obtain ⟨σ2, H2, J2, q⟩ := hfl
      exact wpAny_execs_nil ⟨σ2, H2, J2.ofTry iok, q⟩
    | brk =>
      obtain ⟨σ2, H2, J2, q⟩ := hfl
      exact ⟨σ2, H2, J2.ofTry iok, q⟩
    | cont =>
      obtain ⟨σ2, H2, J2, q⟩ := hfl
      exact ⟨σ2, H2, J2.ofTry iok, q⟩
end
end DL
namespace DL
open PySem PySem.Spec PyProof.Rows L2
/-- the clauses 'except x as n', i the slot of n: what is owed of what is caught -/
inductive ClD (X : Cx) (n : Str) (i : Nat) (P : Post) : List ExceptHandler → (Exn → Sl → Mem → Prop) → Prop
  | nil : ClD X n i P [] P.ex
  | cons {x : Str} {c : Value} {b0 : Stmt} {suite : List Stmt} {p1 p2 : Pos} {hds : List ExceptHandler} {R : Exn → Sl → Mem → Prop} (nm : Names X x c) (more : ClD X n i P hds R) : ClD X n i P (.ExceptHandler (some (.Name x p1)) (some n) (b0 :: suite) p2 :: hds)
      (fun y Γ1 M1 => ∃ b, PySem.W.exmOne X.K (.ref y.1) c = some b ∧ (b = true → y.2 ≠ [] ∧ ∀ a dd oe pn', Zc (.ref y.1) (some dd) oe → (∃ vs, oe.data = .fields vs) → JSs (X.suite a ((a, oe) :: pn')) (Γ1.set i (some (.exc a dd y.1 y.2))) M1 (b0 :: suite) (P.suite i)) ∧ (b = false → R y Γ1 M1))
section
variable {X : Cx} {n : Str} {i : Nat} {P : Post} {hs : List ExceptHandler} {R : Exn → Sl → Mem → Prop}
theorem ClD.list (hi : X.N[i]? = some n) (cl : ClD X n i P hs R) : ∃ l, Clauses X n hs l ∧ ∀ (B : Bas) (De : Ends), PostOk X B P De → ∀ (y : Exn) (Γ1 : Sl) (M1 : Mem) (Hn1 H1 : Hp) (σ1 : L2.St) (cls : Value) (dd : Option Addr), R y Γ1 M1 → SR X.K B M1 Γ1 Hn1 H1 σ1 → ExIs X.K Hn1 cls dd y → wList X.K i (fun cls d σ H => AirOk X cls d σ H) De l cls dd σ1 H1 := by
  induction cl with
  | nil => exact ⟨[], .nil, fun B De ok y Γ1 M1 Hn1 H1 σ1 cls dd r S ri => ok.ex y Γ1 M1 Hn1 H1 σ1 cls dd r S ri⟩
  | @cons x c b0 suite p1 p2 hds R nm more ih =>
    obtain ⟨l, cl, hl⟩ := ih
    refine ⟨(c, fun a cls d De σ H => ∀ oe pn, Zc cls d oe → (∃ vs, oe.data = .fields vs) → RunSs (X.suite a ((a, oe) :: pn)) (b0 :: suite) σ H De) :: l,
      .cons nm (fun a oe cls d pn hz hf => ⟨fun pins s σ H De J h => h oe pn hz hf pins s J⟩) cl, fun B De ok y Γ1 M1 Hn1 H1 σ1 cls dd r S ri => ?_⟩
    obtain ⟨b, hb, yes, no⟩ := r
    have ri2 := ri
    obtain ⟨rfl, hd⟩ := ri
    refine ⟨b, hb, fun e a ha oe pn hz hf pins s J => ?_, fun e => hl B De ok y Γ1 M1 Hn1 H1 σ1 _ dd (no e) S ri2⟩
    obtain ⟨ne, run⟩ := yes e
    rcases hd with ⟨_, z⟩ | ⟨d, vs, rfl, hx, rf⟩
    · exact (ne z).elim
    · have lt : i < σ1.length := by
        have q := len_of J (x := n) hi
        rwa [List.length_set] at q
      exact run a d oe pn hz hf B Hn1 H1 _ (S.set lt (.exc hx rf)) (Endi i De) ⟨fun Γ2 M2 Hn2 H2 σ2 p S2 => ok.nx _ _ _ _ _ p S2.unset, fun Γ2 M2 Hn2 H2 σ2 p S2 => ok.bk _ _ _ _ _ p S2.unset, fun Γ2 M2 Hn2 H2 σ2 p S2 => ok.ct _ _ _ _ (σ2.set i none) p (S2.unset (i := i)), ok.rt, fun _ _ _ _ _ _ _ _ z => z.elim⟩ pins s J
/-- try: body; several clauses -/
theorem js_try_list (i : Nat) {n : Str} {Γ : Sl} {M : Mem} {h0 : ExceptHandler} {hds : List ExceptHandler} {body : List Stmt} {pos : Pos} (cl : ClD X n i P (h0 :: hds) R) (nod : X.N.Nodup) (h : ∀ pn xe, PassesOwn (model X.prog X.w) X.A X.env xe → JSs (X.tr pn xe) Γ M body { P with ex := R })
    (stk : X.stack = X.env :: X.outer := by rfl) (frm : X.env.frame = some X.env.locals := by rfl) (hi : X.N[i]? = some n := by rfl) (nl : X.env.kindOf n = some .local := by rfl) : JS X Γ M (.Try body (h0 :: hds) [] [] pos) P := fun B Hn H σ S De ok => by
  obtain ⟨l, cls, hl⟩ := cl.list hi
  refine run_ps (ps_try_list (i := i) (tb := fun W De σ H => ∀ pn xe, Takes (X.tr pn xe) W → PassesOwn (model X.prog X.w) X.A X.env xe → RunSs (X.tr pn xe) body σ H De) (Wout := fun cls d σ H => AirOk X cls d σ H) stk frm nod hi nl takes_air (fun W pn xe tk po => ⟨fun pins s σ H De J h => h pn xe tk po pins s J⟩) cls) ?_
  intro pn xe tk po
  exact h pn xe po B Hn H σ S De ⟨ok.nx, ok.bk, ok.ct, ok.rt, fun y Γ1 M1 Hn1 H1 σ1 c dd r S1 ri => air_of tk (hl B De ok y Γ1 M1 Hn1 H1 σ1 c dd r S1 ri)⟩
end
end DL
end

section
set_option Elab.async false
set_option linter.all false
set_option maxRecDepth 100000
set_option maxHeartbeats 4000000
/-! text.split(text), text.join(texts). -/
namespace DL
open PySem PySem.Spec PyProof.Rows L2
section
variable {X : Cx} {M : Mem} {Φ : D → Mem → Prop}
theorem isA_strs {K : PySem.W.Frag} {H : Hp} : ∀ ys : List Str, IsA K H (ys.map V.str) (ys.map D.str)
  | [] => .nil
  | y :: ys => .cons (.str y) (isA_strs ys)
theorem strs_of {K : PySem.W.Frag} {H : Hp} : ∀ {vs : List V} {ys : List Str}, IsA K H vs (ys.map D.str) → vs = ys.map V.str
  | _, [], .nil => rfl
  | _, y :: ys, .cons a b => by
    cases a
    rw [strs_of b]
    rfl
theorem md_split {a b : Str} (hb : (b.length == 0) = false) (hl : a.length + 2 ≤ 1000000) (h : Φ (.lst ((Txt.split a b).map .str)) M) : MetD X "str.split" (.str a) [.str b] M Φ := fun B Γ Hn H σ v vs Q S r rr q => by
  cases r
  obtain ⟨u, rfl, ru⟩ := rr.one
  cases ru
  refine ⟨_, mt_split, a, b, rfl, rfl, hb, by rw [sizeLine_eq]; omega, fun p hp => ?_⟩
  have hn := S.rep.nn hp
  exact q _ _ _ _ _ h (S.alloc hp) (same_upd hn) (.lst upd_same (isA_strs _))
theorem md_joinL {a : Str} {ys : List Str} (hl : (ys.map (·.length)).sum + ys.length * a.length ≤ 1000000) (h : Φ (.str (Txt.join a ys)) M) : MetD X "str.join" (.str a) [.lst (ys.map .str)] M Φ := fun B Γ Hn H σ v vs Q S r rr q => by
  cases r
  obtain ⟨u, rfl, ru⟩ := rr.one
  cases ru with
  | @lst p ws _ h1 r1 =>
    have e := strs_of r1
    subst e
    exact ⟨_, mt_join, a, p, ys, rfl, rfl, .inl (SqL.of (S.rep.sub _ _ h1)), by omega, q _ _ _ _ _ h S (Same.refl _) (.str _)⟩
theorem md_joinT {a : Str} {ys : List Str} (hl : (ys.map (·.length)).sum + ys.length * a.length ≤ 1000000) (h : Φ (.str (Txt.join a ys)) M) : MetD X "str.join" (.str a) [.tup (ys.map .str)] M Φ := fun B Γ Hn H σ v vs Q S r rr q => by
  cases r
  obtain ⟨u, rfl, ru⟩ := rr.one
  cases ru with
  | @tup p ws _ h1 r1 =>
    have e := strs_of r1
    subst e
    exact ⟨_, mt_join, a, p, ys, rfl, rfl, .inr (same_t S.rep.sub h1), by omega, q _ _ _ _ _ h S (Same.refl _) (.str _)⟩
end
end DL
end

section
set_option Elab.async false
set_option linter.all false
set_option maxRecDepth 100000
set_option maxHeartbeats 4000000
/-! An instance is made and stays a cell. -/
namespace DL
open PySem PySem.Spec PyProof.Rows L2
section
variable {X : Cx} {Γ : Sl} {M : Mem} {Φ : D → Mem → Prop} {Ψ : XP} {e : Expr} {es : List Expr} {pos p : Pos} {spec : Spec} {k : Nat} {dds : List D}
/-- C(e, ..), the instance a cell -/
theorem je_makeC {C : Addr} {x : Str} (G : GMk X.prog X.w X.K X.mg X.base k x C dds spec) (hr : Room (k + 1) X.A)
    (h : JA X Γ M (e :: es) (fun ds M1 => ∀ t, spec (.raw (.ref t) :: (ds ++ dds)) [(t, .ins C [])] (fun d M' => d = .non ∧ ∃ fs, M' = [(t, .ins C fs)] ∧ Φ (.raw (.ref t)) (M1 ++ [(t, .ins C fs)])) (fun x M' => Ψ x M1)) Ψ) (hg : Gl X x := by rfl) (hdb : (x == ("__debug__" : Str)) = false := by decide)
    (hst : starEach (e :: es) X.env = (false, eval e X.env) :: starEach es X.env := by rfl) (hpl : (backTo pos (starEach es X.env)).any (·.1) = false := by rfl) : JE X Γ M (.Call (.Name x p) (e :: es) [] pos) Φ Ψ := fun B Hn H σ S A Q q => by
  obtain ⟨f, fd, ps, us, dvs, F, MK, hb, hv, hd⟩ := G.ex
  refine run_pe (pe_makeSD (E := fun σ cls d H' => AirOk X cls d σ H') MK F hr hg G.hm hb hv (fun σ => pass_air) pa_run hdb hst hpl) ?_
  refine h B Hn H σ S A _ fun vs ds M1 Hn1 H1 p1 S1 e1 r1 => fun t dx ht hdx hne => ?_
  have S2 := S1.allocH (o := .own t) hdx
  have ht2 : upd H1 dx (.own t) t = none := by rw [upd_ne (Ne.symm hne)]; exact ht
  have S3 := S2.cell (c := .ins C []) (o := .ins C dx []) ht2 ⟨dx, [], upd_same, .nil⟩
  have hn := S1.rep.nn ht
  refine ⟨_, [(t, .ins C [])], Hn1, _, _, .cons (.raw _) (r1.append (hd _)), S3.rep.part (fun p hp => List.mem_append_right _ hp) (by simp), p1 t, fun v d M' Hn' H' p2 R st eM rv => ?_, fun x M' Hn' H' cls dd p2 R st eM ri => ?_⟩
  · obtain ⟨rfl, fs, rfl, p2⟩ := p2
    cases rv
    refine ⟨rfl, ?_⟩
    have S4 : SR X.K B (M1 ++ [(t, .ins C fs)]) Γ Hn' H' σ := S3.call (M0 := [(t, .ins C [])]) (fun p hp => List.mem_append_right _ hp) R st eM (by simp) fun p hp => by
      rcases List.mem_append.mp hp with hp | hp
      · refine .inr ⟨List.mem_append_left _ hp, fun z => ?_⟩
        have z : p.1 = t := by simpa using z
        exact S1.rep.ne hp ht z
      · exact .inl hp
    exact q _ _ _ _ _ p2 S4 (e1.trans st.nn) (.raw _)
  · have em : ∃ c', M' = [(t, c')] := one_of eM
    obtain ⟨c', rfl⟩ := em
    have S4 : SR X.K B (M1 ++ [(t, c')]) Γ Hn' H' σ := S3.call (M0 := [(t, .ins C [])]) (fun p hp => List.mem_append_right _ hp) R st eM (by simp) fun p hp => by
      rcases List.mem_append.mp hp with hp | hp
      · refine .inr ⟨List.mem_append_left _ hp, fun z => ?_⟩
        have z : p.1 = t := by simpa using z
        exact S1.rep.ne hp ht z
      · exact .inl hp
    have S5 := S4.drop (k := M1.length) S1.few
    rw [erase_last] at S5
    exact A x M1 Hn' H' cls dd p2 S5 (e1.trans st.nn) ri
end
end DL
end

section
set_option Elab.async false
set_option linter.all false
set_option maxRecDepth 100000
set_option maxHeartbeats 4000000
/-! enumerate(list); text.upper(). -/
namespace DL
open PySem PySem.Spec PyProof.Rows L2
section
variable {X : Cx} {M : Mem} {Φ : D → Mem → Prop}
theorem md_upper {z : Str} (hl : z.length ≤ 1000000) (h : Φ (.str (Txt.upper z)) M) : MetD X "str.upper" (.str z) [] M Φ := fun B Γ Hn H σ v vs Q S r rr q => by
  cases r; cases rr
  exact ⟨_, mt_upper, z, rfl, rfl, by omega, q _ _ _ _ _ h S (Same.refl _) (.str _)⟩
end
/-- pairs of place and item -/
def enumD (xs : List D) : List D := xs.mapIdx fun i x => .tup [.int (i : Nat), x]
theorem enumD_length (xs : List D) : (enumD xs).length = xs.length := by simp [enumD]
theorem enumD_get {xs : List D} {i : Nat} {y : D} (h : (enumD xs)[i]? = some y) : ∃ x, xs[i]? = some x ∧ y = .tup [.int (i : Nat), x] := by
  unfold enumD at h
  rw [List.getElem?_mapIdx] at h
  cases q : xs[i]? with
  | none => rw [q] at h; cases h
  | some x => rw [q] at h; cases h; exact ⟨x, rfl, rfl⟩
section
variable {X : Cx} {Γ : Sl} {M : Mem} {Ψ : XP} {Φ : List D → Mem → Prop} {e : Expr} {pos p tpos : Pos} {elts : List Expr} {kk : Nat}
theorem ji_enum (hm : X.mg "enumerate" = none) (h : JE X Γ M e (fun d M1 => ∃ xs, d = .lst xs ∧ Φ (enumD xs) M1) Ψ) (hg : Gl X "enumerate" := by rfl) (hs : starEach [e] X.env = [(false, eval e X.env)] := by rfl) :
    JI X Γ M (.Tuple elts kk tpos) (.Call (.Name "enumerate" p) [e] [] pos) Φ Ψ := fun B Hn H σ S A R q pins s I => by
  refine (pi_enum hg hm (pa_cons pe_run pa_nil hs) hs).run pins s σ H R I ?_
  refine h B Hn H σ S A _ fun v d M1 Hn1 H1 p S1 e1 r1 => ?_
  obtain ⟨xs, rfl, p⟩ := p
  cases r1 with
  | @lst t ws _ h1 r1 =>
    refine ⟨t, ws, rfl, SqL.of (S1.rep.sub _ _ h1), q _ _ _ _ _ p S1 e1 ⟨fun i Hn' H' e f hi => ?_, fun Hn' H' e f => ?_, fun i Hn' H' v H2 e f hy hi => ?_⟩⟩
    · rw [enumD_length] at hi
      obtain ⟨w, hw, _⟩ := r1.get (List.getElem?_eq_getElem hi)
      exact ⟨ws, w, SqL.of (f _ _ (e _ _ h1)), hw⟩
    · exact ⟨ws, SqL.of (f _ _ (e _ _ h1)), by rw [enumD_length, r1.length]; exact Nat.le_refl _⟩
    · obtain ⟨T, x, rfl, ht, rfl, hx⟩ := hy
      have hw := hx ws (SqL.of (f _ _ (e _ _ h1)))
      obtain ⟨d, hd, rd⟩ := r1.get' hw
      refine ⟨.tup [.int (i : Nat), d], ?_, .inr ⟨T, _, ht, rfl, ?_⟩⟩
      · unfold enumD
        rw [List.getElem?_mapIdx, hd]
        rfl
      · have sn := same_upd (o := .tup [.int (i : Nat), x]) (f.free ht)
        exact .tup (.inl upd_same) (.cons (.int _) (.cons (rd.mono (e.trans sn)) .nil))
end
theorem isA_rep {K : PySem.W.Frag} {H : Hp} {vs : List V} {ds : List D} (h : IsA K H vs ds) : ∀ k : Nat, IsA K H (List.replicate k vs).flatten (List.replicate k ds).flatten
  | 0 => .nil
  | k + 1 => by
    rw [List.replicate_succ, List.replicate_succ, List.flatten_cons, List.flatten_cons]
    exact h.append (isA_rep h k)
theorem opd_mulL {X : Cx} {M : Mem} {Φ : D → Mem → Prop} {xs : List D} {n : Int} (h1 : -(2 ^ 63) ≤ n) (h2 : n < 2 ^ 63) (hl : xs.length * n.toNat ≤ 1000000) (h : Φ (.lst (List.replicate n.toNat xs).flatten) M) : OpD X (binaryOp .Mult) (.lst xs) (.int n) M Φ := fun B Γ Hn H σ v u Q S rx ry q => by
  cases ry
  cases rx with
  | @lst a vs _ h3 r1 =>
    refine ⟨_, op_rep, a, n, vs, rfl, rfl, S.rep.sub _ _ h3, h1, h2, by rw [r1.length, sizeLine_eq]; omega, fun p hp => ?_⟩
    have hn := S.rep.nn hp
    exact q _ _ _ _ _ h (S.alloc hp) (same_upd hn) (.lst upd_same ((isA_rep r1 n.toNat).mono (same_upd hn)))
end DL
end

section
set_option Elab.async false
set_option linter.all false
set_option maxRecDepth 100000
set_option maxHeartbeats 4000000
/-! -e; what leaves, widened. -/
namespace DL
open PySem PySem.Spec PyProof.Rows L2
theorem je_neg {X : Cx} {Γ : Sl} {M : Mem} {Φ : D → Mem → Prop} {Ψ : XP} {e : Expr} {pos : Pos} (h : JE X Γ M e (fun x M1 => ∃ i, x = .int i ∧ Φ (.int (-i)) M1) Ψ) : JE X Γ M (.UnaryOp .USub e pos) Φ Ψ := fun B Hn H σ S A Q q => by
  refine run_pe (pe_un un_neg pe_run) ?_
  refine h B Hn H σ S A _ fun v d M1 Hn1 H1 p S1 e1 r1 => ?_
  obtain ⟨i, rfl, p⟩ := p
  cases r1
  exact ⟨i, rfl, q _ _ _ _ _ p S1 e1 (.int _)⟩
/-- the code object and the table of the def x -/
def tabP (K : PySem.W.Frag) (x : Str) : Addr × Addr := (PySem.W.tabIn K x).getD (0, 0)
theorem tabP_of {K : PySem.W.Frag} {x : Str} (h : (PySem.W.tabIn K x).isSome = true) : PySem.W.tabIn K x = some (tabP K x) := by
  unfold tabP
  cases e : PySem.W.tabIn K x with
  | none => rw [e] at h; cases h
  | some p => rfl
theorem tab_code {K : PySem.W.Frag} {x : Str} {f c Pt : Addr} {o : Value} {od : Option Addr} {fd : FuncData} {sl : Array (Option Value)} (ha : PySem.W.nsIn K mainGlobals x = some (some (.ref f))) (hl : K.lookup f = some ⟨o, od, .func fd, sl⟩) (ht : PySem.W.tabIn K x = some (c, Pt)) : fd.code = .ref c := by
  unfold PySem.W.tabIn at ht
  rw [ha] at ht
  simp only [hl] at ht
  split at ht
  · rename_i c2 hc
    split at ht
    · split at ht
      · cases ht
        exact hc
      · cases ht
    · cases ht
  · cases ht
/-- the end of a claim whose law makes lambdas, or asks repr -/
theorem walk_ofT {l : PySem.W.OpenLaw} {n k : Nat} {q : Program} {loose : List Str} {XP : (Str → Option Value) → Heap → Prop} {YP : World → Heap → Prop} {d : DefRec} {K : Params → PySem.W.Frag} {sp : World → Addr → Sp} {x nm : Str}
    (most : l.most = some n) (mostLine : n ≤ sizeLine) (noDflt : d.params.defaults = []) (room : Room k callerA) (kinY : ∀ (w : World) (h : Heap), YP w h → (K w.params).In h)
    (rec : ∃ e, (recsOf q).find? (fun e : DefRec => e.name == nm) = some e) (isS : ∀ w : World, (PySem.W.tabIn (K w.params) nm).isSome = true) (nl : ∀ w : World, (K w.params).lookup (tabP (K w.params) nm).2 = none)
    (F : ∀ (w : World) (mg : Str → Option Value) (fa : Addr) (h : Heap), (K w.params).In h → h.Ns mainGlobals mg → mg d.name = some (.ref fa) → ∃ fd : FuncData, (∀ (s : Shared) (u : Value), BindsTo s fd ⟨[u], []⟩ [(x, u)]) ∧
      ∀ base : Heap, (K w.params).In base → base.Ns mainGlobals mg → LamX.TabB base mg (tabP (K w.params) nm).1 (tabP (K w.params) nm).2 → FnG l.prog w (K w.params) mg base k fa fd [x] (sp w (tabP (K w.params) nm).2))
    (want : ∀ (w : World) (H : Hp) (a Pt : Addr) (ns : List Int), ns.length ≤ n → (∀ z ∈ ns, Builtin.Int.intBits z ≤ 1048576) → H Pt = some (.tbl #[]) → SqL (K w.params) H a (ns.map V.int) → sp w Pt [.ref a] H (fun v _ => v = .bl true) fun _ _ _ => False) :
    PySem.W.WalkO q loose XP YP l.row.toRowW d [] (fun f vs => PySem.call f vs) := by
  refine walk_ofG (x := x) (K := K) (sp := fun w => sp w (tabP (K w.params) nm).2) (cs := fun w => [tabP (K w.params) nm]) most mostLine noDflt room kinY (fun w p hp => ?_) (fun w mg fa h k1 k2 k3 => ?_) fun w H a ns h1 h2 h3 _ h5 => want w H a _ ns h1 h2 (h3 _ (List.mem_singleton.mpr rfl)) h5
  · rw [List.mem_singleton.mp hp]
    obtain ⟨e, he⟩ := rec
    exact ⟨⟨nm, e, he, tabP_of (isS w)⟩, nl w⟩
  · obtain ⟨fd, hb, hF⟩ := F w mg fa h k1 k2 k3
    exact ⟨fd, hb, fun base b1 b2 b3 => hF base b1 b2 (b3 _ (List.mem_singleton.mpr rfl))⟩
end DL
end

section
set_option Elab.async false
set_option linter.all false
set_option maxRecDepth 100000
set_option maxHeartbeats 4000000
/-! Errors of the program's own held as values. -/
namespace DL
open PySem PySem.Spec PyProof.Rows L2

/-- an error with fields, held as a value -/
def XO (K : PySem.W.Frag) (a C : Addr) (fs : List (Str × D)) : Hp → Prop := fun H => ∃ (dd : Addr) (vs : List (Str × V)), H a = some (exo a C (some dd)) ∧ H dd = some (exd dd vs) ∧ IsF K H vs fs
/-- an error without fields, held as a value -/
def XO0 (a C : Addr) : Hp → Prop := fun H => H a = some (ExO (.ref C) a)
/-- what isinstance asks of such a class -/
structure IsX (K : PySem.W.Frag) (C : Addr) : Prop where
  rd : XfC K C
  cl : (PySem.W.clsIn K C).isSome = true
  ha : PySem.W.findIn K (.ref C) "__class__" = some (some (.builtin "object.__class__"))
  hn : PySem.W.specialIn K (.builtin "object.__class__") "__get__" = some (some (.builtin "getset_descriptor.__get__"))
  htk : PySem.W.takesIn K (.builtin "object.__class__") = some true
  hm : PySem.W.mroIn K C (.type "object") = some true
section
variable {X : Cx} {e o : Expr} {es : List Expr} {ta : TA} {te : TE} {p pos : Pos}
/-- C(e, ..) as a value -/
theorem pe_oexV {CX : CXT} {x : Str} {C fI : Addr} {k : Nat} {fd : FuncData} {ps : List Str} {sp : Sp} {ds : List Value} {dvs : List V} (T : OexC X.K C) (iC : PySem.W.findIn X.K (.ref C) "__init__" = some (some (.ref fI))) (tI : PySem.W.typeIn X.K (.ref fI) = some (.type "function"))
    (F1 : FnOk X.prog X.w X.K X.mg X.base CX k fI fd ps sp) (hr : Room (k + 1) X.A) (hb : Binds X.K fd ps ds) (hd : Vals dvs ds) (hx : Passes CX X (fun _ _ _ => False)) (hg : Gl X x) (hm : X.mg x = some (.ref C)) (ha : PA X (e :: es) ta)
    (hdb : (x == ("__debug__" : Str)) = false := by decide) (he : starEach (e :: es) X.env = (false, eval e X.env) :: starEach es X.env := by rfl) (hpl : (backTo pos (starEach es X.env)).any (·.1) = false := by rfl) :
    PE X (.Call (.Name x p) (e :: es) [] pos) (fun σ H Q => ta σ H fun vs H1 => vs.length ≤ 1000 ∧ ∀ a, H1 a = none → sp (.ref a :: (vs ++ dvs)) (upd H1 a (exo a C none)) (fun v H2 => v = .non ∧ Q (.ref a) H2) (fun _ _ _ => False)) := by
  refine ⟨fun pins s σ H Q I h => ?_⟩
  obtain ⟨nm, q, N, bs, bm, sn, sub, ab, col, dd, k0, k1, k2, k3, k5, hC, hbm⟩ := T.cls
  refine wpAny_Call_Name_kw (ld_glob I hg hm ?_ hdb)
  refine PySem.W.callWith_K (h₀ := X.base) I.ok.mod.kin T.kC (thn (ha.run pos pins s σ H _ I h) fun us s1 ⟨vs, H1, I1, r1, hz, q1⟩ => ⟨I1.kIn, ?_⟩) he hpl
  show wpAny _ _ (call (.ref C) us) _ _ _
  obtain ⟨hp, g, dr, tk, os⟩ := s1
  have hsz : hp.objs.size ≤ hp.objs.size + 1 := Nat.le_succ _
  have hn : H1 (hp.objs.size + 1) = none := I1.hok.fresh hsz
  have hq := q1 (hp.objs.size + 1) hn
  have kk : ∀ b o, hp.get? b = some o → ((hp.push (PySem.W.kdv_tup us)).push (PySem.HandSPX.excO C hp.objs.size)).get? b = some o := fun b o e => Heap.get?_push_of_some _ (Heap.get?_push_of_some _ e)
  have hget : ((hp.push (PySem.W.kdv_tup us)).push (PySem.HandSPX.excO C hp.objs.size)).get? (hp.objs.size + 1) = some (PySem.HandSPX.excO C hp.objs.size) := by heap_get
  have I2 : Inv X pins σ (upd H1 (hp.objs.size + 1) (exo (hp.objs.size + 1) C none)) ⟨(hp.push (PySem.W.kdv_tup us)).push (PySem.HandSPX.excO C hp.objs.size), g, dr, tk, os⟩ :=
    I1.laid (t' := tk) (a := hp.objs.size + 1) (o := exo (hp.objs.size + 1) C none) (h' := (hp.push (PySem.W.kdv_tup us)).push (PySem.HandSPX.excO C hp.objs.size)) kk hsz (exo_ok hget)
  have r2 : Vals (V.ref (hp.objs.size + 1) :: (vs ++ dvs)) (Value.ref (hp.objs.size + 1) :: (us ++ ds)) := .cons rfl (r1.append hd)
  have hl : (Value.ref (hp.objs.size + 1) :: us ++ ds).length = ps.length := by
    have e := r2.length
    rw [F1.len _ _ _ _ hq] at e
    exact e.symm
  have hus : us.length ≤ sizeLine := by
    rw [← Paired.length r1, sizeLine_eq]
    omega
  refine wpAny_call (PySem.HandSPX.call_own F.excBase_ValueError (fun Y => PySem.HandSPX.refsVE_contains Y bm hbm) (I1.kIn _ _ hC) (PySem.W.looks_findIn I1.kIn iC) (fun self => PySem.W.bind_fn I1.kIn self tI) hus
    (codeAny_mono (F1.run _ X.stack _ _ ⟨Value.ref (hp.objs.size + 1) :: us, []⟩ (Value.ref (hp.objs.size + 1) :: (us ++ ds)) _ _ (fun _ _ _ => False) (hr.make C us []) (I2.env0.make C us []) (hb _ (Value.ref (hp.objs.size + 1) :: us) I2.kIn hl) r2 hq) fun r s' hq' => ?_))
  cases r with
  | error er => exact hx pins σ _ _ er s' I2 hq'
  | ok fl =>
    cases fl with
    | ret u =>
      obtain ⟨v, H2, os2, bare2, un2, hok2, rv, ev, q2⟩ := hq'
      subst ev
      obtain ⟨h2, g2, d2, t2, os'⟩ := s'
      exact ⟨rv, .ref (hp.objs.size + 1), H2, I2.call' (ch := []) os2 un2 hok2 bare2 (fun b z => absurd z (by simp)), rfl, q2⟩
    | next => exact False.elim hq'
    | brk => exact False.elim hq'
    | cont => exact False.elim hq'
/-- x.f of such a value -/
theorem pe_xget {f : Str} (he : PE X e te) (hb : attributeBase e f X.env (eval e X.env) = eval e X.env := by rfl) :
    PE X (.Attribute e f pos) (fun σ H Q => te σ H fun x H1 => ∃ (a C dd : Addr) (fs : List (Str × V)) (v : V), x = .ref a ∧ H1 a = some (exo a C (some dd)) ∧ H1 dd = some (exd dd fs) ∧ XfC X.K C ∧ PySem.W.findIn X.K (.ref C) f = some none ∧ fs.lookup f = some v ∧ Q v H1) := by
  refine ⟨fun pins s σ H Q I h => ?_⟩
  refine attr_of hb (thn (he.run pins s σ H _ I h) fun u s1 hh => ?_)
  obtain ⟨x, H1, I1, rx, a, C, dd, fs, v, ex, ea, ed, T, hno, l, q⟩ := hh
  subst ex
  obtain rfl : u = Value.ref a := rx
  obtain ⟨t1, ha⟩ := exo_at I1.hok ea
  obtain ⟨mA, hns, hr⟩ := exd_at I1.hok ed
  obtain ⟨od, ho, hl⟩ := lookIn_ns hns
  obtain ⟨u, hu, ru⟩ := RelO.some_of (v := v) (o := mA f) (by rw [← l]; exact hr f)
  have J : PySem.W.InstAt s1.heap a _ C (some od) := ⟨ha, rfl, rfl, ho⟩
  exact HandSPX.exc_get I1.kIn J T.ga T.gg T.exC (PySem.W.findObj_own T.hdC hno rfl (by rw [hl, hu])) (handed_of ru) ⟨v, H1, I1.tok _, ru, q⟩
/-- isinstance of such values -/
def rIsX (K : PySem.W.Frag) : List V → Hp → VK → Prop := fun xs H Q => ∃ (a C : Addr) (c : V) (u : Value) (b : Bool), xs = [.ref a, c] ∧ ClsV c u ∧ IsX K C ∧ ((∃ dd fs, H a = some (exo a C (some dd)) ∧ H dd = some (exd dd fs)) ∨ H a = some (ExO (.ref C) a)) ∧ PySem.W.kitOne K (.ref C) u = some b ∧ Q (.bl b) H
theorem call_isX : CallR X (.builtin "isinstance") (rIsX X.K) := by
  intro pins s σ H xs us Q I r h
  obtain ⟨a, C, c, u, b, rfl, k, T, ha, e, q⟩ := h
  obtain ⟨u1, u2, rfl, r1, r2⟩ := vals2 r
  have e2 := k.eq r2
  subst e2
  obtain rfl : u1 = Value.ref a := r1
  rcases ha with ⟨dd, fs, ea, ed⟩ | ea
  · obtain ⟨t1, ho⟩ := exo_at I.hok ea
    obtain ⟨mA, hns, hr⟩ := exd_at I.hok ed
    obtain ⟨od, ho2, hl⟩ := lookIn_ns hns
    have J : PySem.W.InstAt s.heap a _ C (some od) := ⟨ho, rfl, rfl, ho2⟩
    exact PySem.W.kia_one (PySem.W.kitx_exc T.cl T.rd.ga T.rd.gg T.rd.exC T.ha T.hn T.htk T.hm) I.kIn J e (fun z => nomatch z) fun tk => ⟨.bl b, H, I.tok tk, rfl, q⟩
  · obtain ⟨⟨oe, vs, ho, hz, hd, _⟩, _, _⟩ := I.hok a _ ea
    have J : PySem.W.InstAt s.heap a oe C none := ⟨ho, hz.1, by unfold PySem.W.notCls; rw [hd] <;> rfl, by rw [hz.2]; exact True.intro⟩
    exact PySem.W.kia_one (PySem.W.kitx_exc T.cl T.rd.ga T.rd.gg T.rd.exC T.ha T.hn T.htk T.hm) I.kIn J e (fun z => nomatch z) fun tk => ⟨.bl b, H, I.tok tk, rfl, q⟩
/-- isinstance of a caught error, in the suite -/
theorem call_isS {a C dd : Addr} {oe : Obj} {pn : List (Addr × Obj)} (T : IsX X.K C) (hz : Zc (.ref C) (some dd) oe) (hf : ∃ vs, oe.data = .fields vs) :
    CallR (X.suite a ((a, oe) :: pn)) (.builtin "isinstance") (fun xs H Q => ∃ (c : V) (u : Value) (b : Bool) (fs : List (Str × V)), xs = [.ref a, c] ∧ ClsV c u ∧ H dd = some (.xd fs) ∧ PySem.W.kitOne X.K (.ref C) u = some b ∧ Q (.bl b) H) := by
  intro pins s σ H xs us Q I r h
  obtain ⟨c, u, b, fs, rfl, k, ed, e, q⟩ := h
  obtain ⟨u1, u2, rfl, r1, r2⟩ := vals2 r
  have e2 := k.eq r2
  subst e2
  obtain rfl : u1 = Value.ref a := r1
  obtain ⟨ha, _⟩ := I.pin (a, oe) (List.mem_append_left _ List.mem_cons_self)
  obtain ⟨vs, hd⟩ := hf
  have hx : ObjOk X.prog X.w H s.heap dd (.xd fs) := I.hok dd _ ed
  obtain ⟨mA, hns, hr⟩ := hx
  obtain ⟨od, ho, hl⟩ := lookIn_ns hns
  have J : PySem.W.InstAt s.heap a oe C (some od) := ⟨ha, hz.1, by unfold PySem.W.notCls; rw [hd] <;> rfl, by rw [hz.2]; exact ho⟩
  exact PySem.W.kia_one (PySem.W.kitx_exc T.cl T.rd.ga T.rd.gg T.rd.exC T.ha T.hn T.htk T.hm) I.kIn J e (fun z => nomatch z) fun tk => ⟨.bl b, H, I.tok tk, rfl, q⟩
end
section
variable {X : Cx} {Γ : Sl} {M : Mem} {Φ : D → Mem → Prop} {Ψ : XP} {e : Expr} {es : List Expr} {pos p : Pos} {k : Nat}
/-- C(e, ..): an error as a value -/
theorem je_xnew {x : Str} {C : Addr} {fs : List Str} (G : GXc X.prog X.w X.K X.mg X.base k x C fs) (hr : Room (k + 1) X.A) (h : JA X Γ M (e :: es) (fun ds M1 => ds.length = fs.length ∧ ds.length ≤ 900 ∧ ∀ a, Φ (.cl a (XO X.K a C (fs.zip ds).reverse)) M1) Ψ) (hg : Gl X x := by rfl) (hdb : (x == ("__debug__" : Str)) = false := by decide)
    (hst : starEach (e :: es) X.env = (false, eval e X.env) :: starEach es X.env := by rfl) (hpl : (backTo pos (starEach es X.env)).any (·.1) = false := by rfl) : JE X Γ M (.Call (.Name x p) (e :: es) [] pos) Φ Ψ := fun B Hn H σ S A Q q => by
  obtain ⟨fI, fd, ps, iC, tI, F, hb⟩ := G.ex
  refine run_pe (pe_oexV (dvs := []) G.cls iC tI F hr hb .nil (passNo fun c d H q => q) hg G.hm pa_run hdb hst hpl) ?_
  refine h B Hn H σ S A _ fun vs ds M1 Hn1 H1 p1 S1 e1 r1 => ?_
  obtain ⟨l1, l2, p1⟩ := p1
  have lv := r1.length
  refine ⟨by omega, fun a ha => ?_⟩
  refine ⟨a, vs, by rw [List.append_nil], by omega, upd_same, fun dx hdx hne => ⟨rfl, ?_⟩⟩
  have hdx' : H1 dx = none := by rw [upd_ne hne] at hdx; exact hdx
  have eh : upd (upd (upd H1 a (exo a C none)) dx (exd dx (fs.zip vs).reverse)) a (exo a C (some dx)) = upd (upd H1 dx (exd dx (fs.zip vs).reverse)) a (exo a C (some dx)) := by
    rw [upd_swap (Ne.symm hne), upd_over]
  rw [eh]
  have S2 := S1.alloc (o := exd dx (fs.zip vs).reverse) hdx'
  have ha2 : upd H1 dx (exd dx (fs.zip vs).reverse) a = none := by rw [upd_ne (Ne.symm hne)]; exact ha
  have S3 := S2.alloc (o := exo a C (some dx)) ha2
  have n1 := same_upd (o := exd dx (fs.zip vs).reverse) (S1.rep.nn hdx')
  have n2 := same_upd (o := exo a C (some dx)) (S2.rep.nn ha2)
  refine q _ _ _ _ _ (p1 a) S3 ((e1.trans n1).trans n2) (.cl fun H2 e2 => ⟨dx, (fs.zip vs).reverse, e2 _ _ upd_same, e2 _ _ ?_, ?_⟩)
  · rw [upd_ne hne]
    exact upd_same
  · exact (IsF.reverse (IsF.zip r1)).mono ((n1.trans n2).trans e2)
/-- one.f -/
theorem je_xget {f : Str} (h : JE X Γ M e (fun d M1 => ∃ a C fs y, d = .cl a (XO X.K a C fs) ∧ XfC X.K C ∧ PySem.W.findIn X.K (.ref C) f = some none ∧ fs.lookup f = some y ∧ Φ y M1) Ψ) (hb : attributeBase e f X.env (eval e X.env) = eval e X.env := by rfl) : JE X Γ M (.Attribute e f pos) Φ Ψ := fun B Hn H σ S A Q q => by
  refine run_pe (pe_xget pe_run hb) ?_
  refine h B Hn H σ S A _ fun v d M1 Hn1 H1 p S1 e1 r1 => ?_
  obtain ⟨a, C, fs, y, rfl, T, hno, hl, p⟩ := p
  cases r1 with
  | cl r =>
    obtain ⟨dd, vs, h1, h2, h3⟩ := r Hn1 (Same.refl _)
    obtain ⟨w, hw, rw'⟩ := h3.get hl
    exact ⟨a, C, dd, vs, w, rfl, S1.rep.sub _ _ h1, S1.rep.sub _ _ h2, T, hno, hw, q _ _ _ _ _ p S1 e1 rw'⟩
theorem cd_isX {a C : Addr} {R : Hp → Prop} {c : V} {u : Value} {b : Bool} (k : ClsV c u) (T : IsX X.K C) (hR : (∃ fs, R = XO X.K a C fs) ∨ R = XO0 a C) (hb : PySem.W.kitOne X.K (.ref C) u = some b) (h : Φ (.bl b) M) : CallD X (.builtin "isinstance") [.cl a R, .raw c] M Φ := fun B Γ Hn H σ vs Q S rr q => by
  obtain ⟨v, v2, rfl, r, r2⟩ := rr.two
  clear rr
  cases r2
  cases r with
  | cl r =>
    refine ⟨_, call_isX, a, C, c, u, b, rfl, k, T, ?_, hb, q _ _ _ _ _ h S (Same.refl _) (.bl _)⟩
    have z := r Hn (Same.refl _)
    rcases hR with ⟨fs, rfl⟩ | rfl
    · obtain ⟨dd, vs, h1, h2, _⟩ := z
      exact .inl ⟨dd, vs, S.rep.sub _ _ h1, S.rep.sub _ _ h2⟩
    · exact .inr (S.rep.sub _ _ z)
theorem cd_isS {a C dd : Addr} {oe : Obj} {pn : List (Addr × Obj)} {fs : List (Str × D)} {c : V} {u : Value} {b : Bool} (k : ClsV c u) (T : IsX X.K C) (hz : Zc (.ref C) (some dd) oe) (hf : ∃ vs, oe.data = .fields vs) (hb : PySem.W.kitOne X.K (.ref C) u = some b) (h : Φ (.bl b) M) : CallD (X.suite a ((a, oe) :: pn)) (.builtin "isinstance") [.exc a dd C fs, .raw c] M Φ := fun B Γ Hn H σ vs Q S rr q => by
  obtain ⟨v, v2, rfl, r, r2⟩ := rr.two
  clear rr
  cases r2
  cases r with
  | exc h1 _ => exact ⟨_, call_isS T hz hf, c, u, b, _, rfl, k, S.rep.sub _ _ h1, hb, q _ _ _ _ _ h S (Same.refl _) (.bl _)⟩
/-- a list that may change, compared -/
theorem Rep.dpCell {K : PySem.W.Frag} {Hn H : Hp} {M : Mem} (R : Rep K M Hn H) {j : Nat} {t : Addr} {xs : List D} (hk : M[j]? = some (t, .lst xs)) (hp : plainA xs = true) : Dp K H (.ref t) (.list (pyA xs)) := by
  obtain ⟨ws, h1, r1⟩ := (R.cell _ (List.mem_of_getElem? hk)).2
  exact .lst (SqL.of h1) (IsA.dp R.sub r1 hp)
theorem opd_eqC (j : Nat) {t : Addr} {xs : List D} {y : D} (hk : M[j]? = some (t, .lst xs)) (hu : X.A.units + 64 < cLine) (hx : fit (.lst xs) = true) (hy : fit y = true) (h : Φ (.bl (eqd (.lst xs) y)) M) : OpD X (compareOp .Eq) (.raw (.ref t)) y M Φ := fun B Γ Hn H σ v u Q S rx ry q => by
  cases rx
  obtain ⟨p1, s1⟩ := Bool.and_eq_true_iff.mp hx
  obtain ⟨p2, s2⟩ := Bool.and_eq_true_iff.mp hy
  exact ⟨_, op_eqD hu, py (.lst xs), py y, S.rep.dpCell hk p1, ry.dp S.rep.sub p2, s1, s2, q _ _ _ _ _ h S (Same.refl _) (.bl _)⟩
theorem opd_neC (j : Nat) {t : Addr} {xs : List D} {y : D} (hk : M[j]? = some (t, .lst xs)) (hu : X.A.units + 64 < cLine) (hx : fit (.lst xs) = true) (hy : fit y = true) (h : Φ (.bl (!eqd (.lst xs) y)) M) : OpD X (compareOp .NotEq) (.raw (.ref t)) y M Φ := fun B Γ Hn H σ v u Q S rx ry q => by
  cases rx
  obtain ⟨p1, s1⟩ := Bool.and_eq_true_iff.mp hx
  obtain ⟨p2, s2⟩ := Bool.and_eq_true_iff.mp hy
  exact ⟨_, op_neD hu, py (.lst xs), py y, S.rep.dpCell hk p1, ry.dp S.rep.sub p2, s1, s2, q _ _ _ _ _ h S (Same.refl _) (.bl _)⟩
end
section
variable {X : Cx} {Γ : Sl} {M : Mem} {Φ : D → Mem → Prop} {Ψ : XP} {pos p : Pos}
theorem pe_exc0 {C : Addr} {bmB : List Value} {B newId initId : String} {x : Str} (F : ExcBaseFacts B newId initId bmB) (q : PySem.W.excIn X.K C bmB newId = true) (gC : X.mg x = some (.ref C)) (kC : PySem.W.keepIn X.K (.ref C) = true) (hg : Gl X x)
    (hdb : (x == ("__debug__" : Str)) = false := by decide) : PE X (.Call (.Name x p) [] [] pos) (fun σ H Q => ∀ a, H a = none → Q (.ref a) (upd H a (ExO (.ref C) a))) := by
  refine ⟨fun pins s σ H Q I h => ?_⟩
  refine wpAny_Call_Name_kw (ld_glob I hg gC ?_ hdb)
  refine PySem.W.callWith_K0 I.kIn kC ?_
  show wpAny _ _ (call (.ref C) []) _ _ _
  obtain ⟨bm, N, nm, qn, bs, hdct, sn, sub, ab, col, dd, k0, k1, k2, k3, k5, mN, hC, hN, hni, T⟩ := exc_obj I.kIn q
  refine wpAny_call_exc_subT F T hC hN hni (fun h' a hm => ?_) (by show 0 ≤ sizeLine; rw [sizeLine_eq]; omega)
  have hn : H a = none := I.hok.gone hm.new
  obtain ⟨t, ht, _, _⟩ := hm.there
  exact ⟨.ref a, upd H a (ExO (.ref C) a), I.laidN hm.keeps hm.new hn (exO_ok ht ⟨rfl, rfl⟩ rfl rfl rfl (show 4 < 6 by decide)), rfl, h a hn⟩
theorem je_xnew0 {C : Addr} {bmB : List Value} {B newId initId : String} {x : Str} (F : ExcBaseFacts B newId initId bmB) (q : PySem.W.excIn X.K C bmB newId = true) (gC : X.mg x = some (.ref C)) (kC : PySem.W.keepIn X.K (.ref C) = true) (h : ∀ a, Φ (.cl a (XO0 a C)) M) (hg : Gl X x := by rfl)
    (hdb : (x == ("__debug__" : Str)) = false := by decide) : JE X Γ M (.Call (.Name x p) [] [] pos) Φ Ψ := fun B Hn H σ S A Q qq => by
  refine run_pe (pe_exc0 F q gC kC hg hdb) fun a ha => ?_
  have hn := S.rep.nn ha
  exact qq _ _ _ _ _ (h a) (S.alloc ha) (same_upd hn) (.cl fun H1 e1 => e1 _ _ upd_same)
end
end DL
end

section
set_option Elab.async false
set_option linter.all false
set_option maxRecDepth 100000
set_option maxHeartbeats 4000000
/-! A lambda with one parameter, handed to a method: the method asks it of texts. -/
namespace DL
open PySem PySem.Spec PyProof.Rows L2
/-- one parameter, no other name of its own -/
structure LamS1 (sc scope : Scope) (x : Str) : Prop where
  kind : scope.kind = .function
  co : scope.isCoroutine = false
  gen : scope.isGenerator = false
  own : ∀ y ∈ scope.names, (y.2 = .local → y.1 = x) ∧ y.2 ≠ .cell
  par : scope.names.lookup x = some .local
  free : ∀ y ∈ scope.names, y.2 = .free → sc.names.lookup y.1 = some .cell ∨ sc.names.lookup y.1 = some .free
def lamS1B (sc scope : Scope) (x : Str) : Bool :=
  decide (scope.kind = .function) && (!scope.isCoroutine && (!scope.isGenerator && (decide (scope.names.lookup x = some .local) && scope.names.all fun y => (!decide (y.2 = .local) || decide (y.1 = x)) && (!decide (y.2 = .cell) && (!decide (y.2 = .free) || (decide (sc.names.lookup y.1 = some .cell) || decide (sc.names.lookup y.1 = some .free)))))))
theorem lamS1_by {sc scope : Scope} {x : Str} (h : lamS1B sc scope x = true) : LamS1 sc scope x := by
  unfold lamS1B at h
  simp only [Bool.and_eq_true, Bool.or_eq_true, Bool.not_eq_true', decide_eq_true_eq, decide_eq_false_iff_not, List.all_eq_true] at h
  obtain ⟨h1, h2, h3, h4, h5⟩ := h
  refine ⟨h1, h2, h3, fun y hy => ⟨fun e => ?_, (h5 y hy).2.1⟩, h4, fun y hy e => ?_⟩
  · rcases (h5 y hy).1 with z | z
    · exact absurd e z
    · exact z
  · rcases (h5 y hy).2.2 with z | z
    · exact absurd e z
    · exact z
theorem LamS1.has {X : Cx} {scope : Scope} {x : Str} (L : LamS1 X.env.scope scope x) (ok : X.Ok) : ∀ y ∈ scope.names, y.2 = .free → ∃ c, X.env.cells.lookup y.1 = some c := fun y hy e => by
  rcases L.free y hy e with k | k
  · exact ok.has _ (.inl k)
  · exact ok.has _ (.inr k)
/-- the context of the lambda's body -/
def lamCx1 (X : Cx) (x : Str) (A : Around) (outer : List Env) (s : Shared) (H : Hp) (E : XK) (scope : Scope) (f c' : Addr) : Cx where
  prog := X.prog
  w := X.w
  K := X.K
  mg := X.mg
  base := X.base
  A := A.deeper (LamX.lamEnv X scope s.heap.objs.size f c')
  N := X.N ++ [x]
  s_0 := s
  H_0 := H
  env := LamX.lamEnv X scope s.heap.objs.size f c'
  outer := outer
  stack := LamX.lamEnv X scope s.heap.objs.size f c' :: outer
  ex := []
  fn := fun _ => false
  calm := true
  pn := []
  xe := fun e s' => wpAny (model X.prog X.w) (A.deeper (LamX.lamEnv X scope s.heap.objs.size f c')) (leaving (LamX.lamEnv X scope s.heap.objs.size f c') e) (fun _ s'' => L2.CX X.prog X.w outer H s E e s'') (fun e' s'' => L2.CX X.prog X.w outer H s E e' s'') s'
section
variable {X : Cx} {pins : List (Addr × Obj)} {σ : L2.St} {H HZ : Hp} {s s1 : Shared}
theorem lam_start3 {A : Around} {outer : List Env} {E : XK} {scope : Scope} {x : Str} {f c' : Addr} {h₁ : Heap} {tk : Nat} {v0 : V} {u0 : Value} (I : Inv X pins σ H s) (L : LamS1 X.env.scope scope x) (hx : x ∉ X.N) (rv0 : RelV v0 u0) (e0 : Env0 X.prog X.w X.K X.mg X.base A outer s1 HZ) (hd : A.handled = none)
    (un : Un (frs X.stack) [] H HZ s.heap s1.heap) (hns : h₁.Ns s1.heap.objs.size fun y => ([(x, u0)] : List (Str × Value)).reverse.lookup y) (kp : ∀ b o, s1.heap.get? b = some o → h₁.get? b = some o) :
    Inv (lamCx1 X x A outer s1 HZ E scope f c') [] (σ ++ [some v0]) HZ { s1 with heap := h₁, toks := tk } := by
  have hfree := L.has I.ok
  have cm : ∀ {y c}, (cloFrom X.env.cells scope.names []).lookup y = some c → X.env.cells.lookup y = some c := fun {y c} e => by
    rcases cloFrom_mem (PySem.mem_of_lookup e) with hm | ⟨h1, h2⟩
    · cases hm
    · obtain ⟨c1, hc⟩ := hfree _ h1 rfl
      have hc : X.env.cells.lookup y = some c1 := hc
      have e2 : c = c1 := by
        rw [h2, hc] <;> rfl
      rw [e2]
      exact hc
  have look : ∀ {y}, scope.names.lookup y = some .free → ∃ c, (cloFrom X.env.cells scope.names []).lookup y = some c := fun {y} hl => by
    have hy : (y, NameKind.free) ∈ scope.names := PySem.mem_of_lookup hl
    exact mem_lookup (cloFrom_has (cells := X.env.cells) (acc := []) hy)
  have cellK : ∀ {c : Addr} {v : Option Value}, H c = none → s.heap.IsCell c v → h₁.IsCell c v := fun {c v} n ⟨o, ho, hd⟩ => by
    obtain ⟨sl, q⟩ := un.any ho n (by simp)
    exact ⟨_, kp _ _ q, hd⟩
  have noA : ∀ b : Addr, b ∉ (lamCx1 X x A outer s1 HZ E scope f c').ex := fun b z => absurd (show b ∈ ([] : List Addr) from z) (by simp)
  refine ⟨⟨e0.mod, L.kind, rfl, rfl, Nat.le_refl _, fun y z c e1 e2 => I.ok.inj y z c (cm e1) (cm e2), fun y hy => ?_, fun y c z _ => ?_, fun _ => hd, Around.frames_deeper e0.frames, .inr ⟨rfl, rfl⟩, fun b z => absurd z (noA b), e0.bs, e0.bsz, fun b _ _ => noA b,
      fun b z => absurd z (noA b), e0.funs, e0.frf⟩,
    rfl, e0.bare, Un.kept kp, ⟨_, hns, fun i y v e1 e2 e3 => ?_⟩, fun y c e => ?_, e0.hok.fresh (Nat.le_refl _), fun y c e => ?_, fun q hq => absurd (show q ∈ ([] : List (Addr × Obj)) ++ [] from hq) (by simp), e0.hok.kept kp, ?_⟩
  · have hy : scope.names.lookup y = some .cell ∨ scope.names.lookup y = some .free := hy
    rcases hy with hy | hy
    · exact absurd rfl (L.own _ (PySem.mem_of_lookup hy)).2
    · exact look hy
  · have z : false = true := z
    cases z
  · have e3 : Vis scope y := e3
    have e1 : (X.N ++ [x])[i]? = some y := e1
    by_cases hi : i < X.N.length
    · rw [List.getElem?_append_left hi] at e1
      rw [List.getElem?_append_left (by rw [I.len]; exact hi)] at e2
      have ynx : y ≠ x := fun z => hx (by rw [← z]; exact List.mem_of_getElem? e1)
      rcases e3 with k | k | k
      · exact absurd ((L.own _ (PySem.mem_of_lookup k)).1 rfl) ynx
      · exact absurd rfl (L.own _ (PySem.mem_of_lookup k)).2
      · obtain ⟨m, hn, hl⟩ := I.loc
        have hvis : Vis X.env.scope y := (L.free _ (PySem.mem_of_lookup k) rfl).elim (fun k => .inr (.inl k)) (fun k => .inr (.inr k))
        obtain ⟨w', r, q⟩ := hl i y v e1 e2 hvis
        obtain ⟨c2, h2⟩ := look k
        refine ⟨w', r, .inr ⟨.inr k, c2, h2, ?_⟩⟩
        have c1 := cm h2
        rcases q with ⟨k', _⟩ | ⟨_, c3, e', z⟩
        · have k' : X.env.scope.names.lookup y = some .local := k'
          rcases L.free _ (PySem.mem_of_lookup k) rfl with k2 | k2 <;> rw [show X.env.scope.names.lookup y = _ from k2] at k' <;> cases k'
        · rw [c1] at e'
          cases e'
          exact cellK (I.freeC y _ c1) z
    · rw [List.getElem?_append_right (by omega)] at e1
      rw [List.getElem?_append_right (by rw [I.len]; omega)] at e2
      have hj : i - X.N.length = 0 := by
        by_cases z : i - X.N.length = 0
        · exact z
        · rw [List.getElem?_eq_none (by simp; omega)] at e1
          cases e1
      rw [hj] at e1
      rw [I.len, hj] at e2
      cases e1
      cases e2
      refine ⟨u0, rv0, .inl ⟨L.par, ?_⟩⟩
      show ([(x, u0)] : List (Str × Value)).reverse.lookup x = some u0
      simp
  · obtain ⟨w', z⟩ := I.cell y c (cm e)
    exact ⟨w', cellK (I.freeC y c (cm e)) z⟩
  · obtain ⟨v, o, ho, hd⟩ := I.cell y c (cm e)
    exact un.free c o ho (I.freeC y c (cm e)) (by simp)
  · show (σ ++ [some v0]).length = (X.N ++ [x]).length
    rw [List.length_append, List.length_append, I.len]
    rfl
variable {Γ : Sl} {M : Mem} {g f c : Addr} {cdg pm ctv : Value} {qg : Str} {sg : Scope} {Ng : List Str} {params : Arguments} {body : Expr} {scope : Scope} {kk : Nat} {E0 : XK}
/-- a(e1) in the def that was handed the closure, which tells p of what is ok -/
theorem je_actP {Γz : Sl} {pn : List (Addr × Obj)} {xe : Value → Shared → Prop} {a x : Str} {p1 p2 : Pos} {e1 : Expr} {ia : Nat} {p : D → Bool} {ok : D → Prop} {Φ : D → Mem → Prop} {Ψ : XP} (J : Inv X pins σ H s) (L : LamS1 X.env.scope scope x) (hx : x ∉ X.N) (hΓl : Γ.length = X.N.length) (of : s.heap.get? f = some (lamO X params body scope pm ctv c)) (nf : H f = none) (rf : f ∉ frs X.stack)
    (bind1 : ∀ u : Value, bindArgs (PySem.W.kla_fn "<lambda>" (X.env.qual ++ "<lambda>") params body scope (cloFrom X.env.cells scope.names []) pm (.ref c) ctv) ⟨[u], []⟩ = pure [(x, u)])
    (room : Room (kk + 1) (X.A.deeper (envOfC qg sg s.heap.objs.size g cdg)))
    (lam : ∀ (A : Around) (outer : List Env) (s : Shared) (H : Hp) (E : XK) (d : D), ok d → Room kk (A.deeper (LamX.lamEnv X scope s.heap.objs.size f c)) → JE (lamCx1 X x A outer s H E scope f c) (Γ ++ [some d]) M body (fun r M1 => r = .bl (p d) ∧ M1.take M.length = M) noX)
    (hΓ : Γz[ia]? = some (some (.cl f (ClR X.K c (lamQ X) Γ σ)))) (hN : Ng[ia]? = some a) (hv : Vis sg a) (hd : (a == ("__debug__" : Str)) = false) (hcd : (a == ("__classdict__" : Str)) = false)
    (he : JA ((cxOf (L2.CX X.prog X.w) X.prog X.w X.K X.mg X.base Ng qg sg g cdg X.A X.stack s H E0).tr pn xe) Γz M [e1] (fun ds M1 => ∃ d, ds = [d] ∧ M1 = M ∧ ok d ∧ Φ (.bl (p d)) M) Ψ)
    (hst : ∀ env, starEach [e1] env = (false, eval e1 env) :: starEach [] env) :
    JE ((cxOf (L2.CX X.prog X.w) X.prog X.w X.K X.mg X.base Ng qg sg g cdg X.A X.stack s H E0).tr pn xe) Γz M (.Call (.Name a p1) [e1] [] p2) Φ Ψ := by
  intro B Hn HZ σZ S Ar Q q pinsZ sZ IZ
  obtain ⟨v0, hv0, r0⟩ := S.sl ia _ hΓ
  cases r0 with
  | cl r0 =>
    refine wpAny_Call_Name_kw (thn ((pe_var (pos := p1) (i := ia) hN hv hd hcd).run pinsZ sZ σZ HZ (fun y Hy => y = .ref f ∧ Hy = HZ) IZ ⟨.ref f, hv0, rfl, rfl⟩) fun u1 t1 hu1 => ?_)
    obtain ⟨y, Hy, J1, ry, ey, eHy⟩ := hu1
    subst ey
    subst eHy
    obtain rfl : u1 = Value.ref f := ry
    have of1 : t1.heap.get? f = some (lamO X params body scope pm ctv c) := J1.base.keep f _ of nf rf (fun z => nomatch (show f ∈ ([] : List Addr) from z))
    refine PySem.W.callWith_F (first := []) ⟨_, _, _, _, of1⟩ (thn (pa_run.run p2 pinsZ t1 σZ Hy (fun vs H2 => ∃ d v Hn2, vs = [v] ∧ SR X.K B M Γz Hn2 H2 σZ ∧ Same Hn Hn2 ∧ Is X.K Hn2 v d ∧ ok d ∧ Φ (.bl (p d)) M) J1 (he B Hn Hy σZ S Ar _ fun vs ds M1 Hn2 H2 pp S2 e2 r2 => ?_)) fun us t2 hu2 => ?_) (hst _) rfl
    · obtain ⟨d, rfl, rfl, hok, hφ⟩ := pp
      cases r2 with
      | cons ra rb =>
        cases rb
        exact ⟨d, _, Hn2, rfl, S2, e2, ra, hok, hφ⟩
    obtain ⟨vs, H2, J2, rvs, d, v, Hn2, rfl, S2, e2, rd, hok, hφ⟩ := hu2
    obtain ⟨hc, hsl⟩ := r0 Hn2 e2
    cases rvs with
    | @cons _ u _ _ rvu rest =>
    cases rest
    have of2 : t2.heap.get? f = some (lamO X params body scope pm ctv c) := J2.base.keep f _ of nf rf (fun z => nomatch (show f ∈ ([] : List Addr) from z))
    refine ⟨⟨_, _, _, _, of2⟩, ?_⟩
    have un : Un (frs X.stack) [] H H2 s.heap t2.heap := J2.base
    obtain ⟨⟨oc, vs, t, hoc, hdc, hvc⟩, _, _⟩ := J2.hok c _ (S2.rep.sub _ _ hc)
    have run1 : codeAny (model X.prog X.w) (X.A.deeper (envOfC qg sg s.heap.objs.size g cdg)) (.call (.ref f) ⟨[u], []⟩) (CR (L2.CX X.prog X.w) (envOfC qg sg s.heap.objs.size g cdg :: X.stack) X.prog X.w H2 t2 Q (fun cls d H' => AirOk ((cxOf (L2.CX X.prog X.w) X.prog X.w X.K X.mg X.base Ng qg sg g cdg X.A X.stack s H E0).tr pn xe) cls d σZ H')) t2 := by
      refine PySem.W.kla_callFunE room.depth of2 rfl L.co L.gen rfl ⟨c, oc, vs, t, rfl, hoc, hdc, hvc⟩ ?_
      rw [bind1]
      refine wpAny_pure (wpAny_newFunctionEnv (fun y hy => (L.own y hy).2) (fun y hy => by rw [List.mem_singleton.mp hy]; exact L.par) (fun h2 hns hsb => ⟨J2.nolimit.fresh _ hsb, ?_⟩) L.kind)
      show codeAny _ _ (.expr body (LamX.lamEnv X scope t2.heap.objs.size f c)) _ _
      have kp : ∀ b o, t2.heap.get? b = some o → h2.get? b = some o := fun b o e => hsb.extBut b o (Nat.ne_of_lt (Heap.lt_size e)) (Heap.get?_push_of_some _ e)
      have J3 := lam_start3 (E := fun cls d H' => AirOk ((cxOf (L2.CX X.prog X.w) X.prog X.w X.K X.mg X.base Ng qg sg g cdg X.A X.stack s H E0).tr pn xe) cls d σZ H') (f := f) (c' := c) (tk := t2.toks + ([(x, u)] : List (Str × Value)).length) J L hx rvu J2.env0 room.hd un hns kp
      have S3 : SR X.K ⟨Hn2, H2, M.map (·.1)⟩ M (Γ ++ [some d]) Hn2 H2 (σ ++ [some v]) := S2.inner fun i d' hi => by
        by_cases hl : i < Γ.length
        · rw [List.getElem?_append_left hl] at hi
          obtain ⟨w', h1, h2⟩ := hsl i d' hi
          exact ⟨w', by rw [List.getElem?_append_left (by rw [J.len, ← hΓl]; exact hl)]; exact h1, h2⟩
        · rw [List.getElem?_append_right (by omega)] at hi
          have hj : i - Γ.length = 0 := by
            by_cases z : i - Γ.length = 0
            · exact z
            · rw [List.getElem?_eq_none (by simp; omega)] at hi
              cases hi
          rw [hj] at hi
          cases hi
          exact ⟨v, by rw [List.getElem?_append_right (by rw [J.len, ← hΓl]; omega), J.len, ← hΓl, hj]; rfl, rd⟩
      refine PySem.W.kla_codeExpr (wpAny_mono (lam (X.A.deeper (envOfC qg sg s.heap.objs.size g cdg)) (envOfC qg sg s.heap.objs.size g cdg :: X.stack) t2 H2 (fun cls d H' => AirOk ((cxOf (L2.CX X.prog X.w) X.prog X.w X.K X.mg X.base Ng qg sg g cdg X.A X.stack s H E0).tr pn xe) cls d σZ H') d hok (room.deeper _) (⟨Hn2, H2, M.map fun p : Addr × Cell => p.1⟩ : Bas) Hn2 H2 (σ ++ [some v]) S3 air_no Q ?_ [] _ J3) (fun v s' hq => ?_) fun e s' hq => hq)
      · intro v' d' M' Hn' H' pv S4 e4 rv
        obtain ⟨rfl, hM⟩ := pv
        refine q v' _ M Hn' H' hφ ?_ (e2.trans e4) rv
        rw [← hM]
        exact S2.behind S4
      · obtain ⟨w2, H', J4, rv, pq⟩ := hq
        exact ⟨w2, H', J4.os, J4.bare, J4.base, J4.hok, rv, pq⟩
    refine wpAny_call (codeAny_mono run1 fun r s' hq => ?_)
    · cases r with
      | error e => exact pass_air (X := (cxOf (L2.CX X.prog X.w) X.prog X.w X.K X.mg X.base Ng qg sg g cdg X.A X.stack s H E0).tr pn xe) pinsZ H2 t2 e s' J2 hq
      | ok fl =>
        cases fl with
        | ret u => exact J2.after hq
        | next => exact False.elim hq
        | brk => exact False.elim hq
        | cont => exact False.elim hq
end
end DL
end

section
set_option Elab.async false
set_option linter.all false
set_option maxRecDepth 100000
set_option maxHeartbeats 4000000
/-! o.m(lambda x: body): the closure is handed to a method. The end of a claim whose methods make lambdas. -/
namespace DL
open PySem PySem.Spec PyProof.Rows L2
/-- a method that is handed a closure: what it does where the closure tells p of what is ok -/
structure GMeL (P : Program) (w : World) (K : PySem.W.Frag) (mg : Str → Option Value) (base : Heap) (k : Nat) (C : Addr) (m : Str) (T : (D → Bool) → (D → Prop) → Addr → Mem → (D → Mem → Prop) → XP → Prop) : Prop where
  cl : Cls K C
  ex : ∃ (st : Stmt) (qual : Str) (g : Addr) (fd : FuncData) (sf a : Str) (N : List Str), Fun K m qual st g fd ∧ Meth K C m g ∧ FnScope N [sf, a] (defScope st) ∧ N[1]? = some a ∧ Vis (defScope st) a ∧ (a == ("__debug__" : Str)) = false ∧ (a == ("__classdict__" : Str)) = false ∧ Binds K fd [sf, a] [] ∧
    ∀ (cdv : Value) (A : Around) (outer : List Env) (s : Shared) (H : Hp) (E : XK), Room k (A.deeper (envOfC qual (defScope st) s.heap.objs.size g cdv)) → ∀ (f : Addr) (R : Hp → Prop) (M : Mem) (p : D → Bool) (ok : D → Prop) (t : Addr) (Φ : D → Mem → Prop) (Ψ : XP), T p ok t M Φ Ψ →
      (∀ (pn : List (Addr × Obj)) (xe : Value → Shared → Prop) (Γz : Sl) (e1 : Expr) (p1 p2 : Pos) (Φ' : D → Mem → Prop) (Ψ' : XP), Γz[1]? = some (some (.cl f R)) → (∀ env, starEach [e1] env = (false, eval e1 env) :: starEach [] env) →
        JA ((cxOf (L2.CX P w) P w K mg base N qual (defScope st) g cdv A outer s H E).tr pn xe) Γz M [e1] (fun ds M1 => ∃ d, ds = [d] ∧ M1 = M ∧ ok d ∧ Φ' (.bl (p d)) M) Ψ' → JE ((cxOf (L2.CX P w) P w K mg base N qual (defScope st) g cdv A outer s H E).tr pn xe) Γz M (.Call (.Name a p1) [e1] [] p2) Φ' Ψ') →
      JSs (cxOf (L2.CX P w) P w K mg base N qual (defScope st) g cdv A outer s H E) (some (.raw (.ref t)) :: some (.cl f R) :: List.replicate (N.length - 2) none) M (defBody st) { nx := fun _ M' => Φ .non (M'.take M.length), rt := fun d M' => Φ d (M'.take M.length), ex := fun y _ M' => Ψ y (M'.take M.length) }
section
variable {X : Cx} {Γ : Sl} {M : Mem} {Φ : D → Mem → Prop} {Ψ : XP} {k kk : Nat}
theorem je_lamM {x m : Str} {C : Addr} {T : (D → Bool) → (D → Prop) → Addr → Mem → (D → Mem → Prop) → XP → Prop} {c P t : Addr} {kt kr : Nat} {rf0 : List (Str × D)} {params : Arguments} {body o : Expr} {scope : Scope} {lpos apos pos : Pos} {p : D → Bool} {ok : D → Prop} {pl : Sem Bool} (G : GMeL X.prog X.w X.K X.mg X.base (kk + 1) C m T) (hr : Room (kk + 2) X.A)
    (tb : LamX.TabB X.base X.mg c P) (hcode : X.env.code = .ref c) (hM : M[kt]? = some (P, .tab (lamQ X))) (L : LamS1 X.env.scope scope x) (hx : x ∉ X.N) (hΓl : Γ.length = X.N.length) (hR : M[kr]? = some (t, .ins C rf0)) (hm0 : rf0.lookup m = none)
    (ho : JE X Γ M o (fun d M1 => d = .raw (.ref t) ∧ M1 = M) Ψ)
    (lam : ∀ (A : Around) (outer : List Env) (s : Shared) (H : Hp) (E : XK) (c1 f L1 : Addr) (d : D), ok d → Room kk (A.deeper (LamX.lamEnv X scope L1 f c1)) → L1 = s.heap.objs.size → JE (lamCx1 X x A outer s H E scope f c1) (Γ ++ [some d]) M body (fun r M1 => r = .bl (p d) ∧ M1.take M.length = M) noX)
    (hT : T p ok t M Φ Ψ) (hdef : defaultsOf params X.env = ([], []) := by rfl)
    (bind1 : ∀ (q : Str) (cl : List (Str × Addr)) (pm cv ctv u : Value), bindArgs (PySem.W.kla_fn "<lambda>" q params body scope cl pm cv ctv) ⟨[u], []⟩ = pure [(x, u)] := by intros; rfl)
    (ht : eval (.Call (.Attribute o m apos) [.Lambda params body scope lpos] [] pos) X.env = (do
      let rcv ← eval o X.env
      standAt apos.atName
      let (g, fst) ← holding [rcv] (getMethod rcv m pl)
      callWith pos g fst (backTo pos (starEach [.Lambda params body scope lpos] X.env)) (backToKw pos (keywordEach [] X.env))) := by rfl) :
    JE X Γ M (.Call (.Attribute o m apos) [.Lambda params body scope lpos] [] pos) Φ Ψ := fun B Hn H σ S A Q q pins s I => by
  obtain ⟨st, qual, g, fd, sf, a, N, F, hme, Sc, hN, hva, hd1, hd2, hb, hbody⟩ := G.ex
  obtain ⟨oc, od, kV, doc, pmg, an, cdv, ct, osl, rfl, lk, hcd⟩ := F.ex
  -- behind the making
  have go : ∀ (f c1 : Addr) (pm ctv : Value) (s1 : Shared) (Hn1 H1 : Hp), Inv X pins σ H1 s1 → SR X.K B M Γ Hn1 H1 σ → Same Hn Hn1 → s1.heap.get? f = some (lamO X params body scope pm ctv c1) → H1 f = none → f ∉ frs X.stack → Hn1 c1 = some (LamX.CodeO c1 (lamQ X)) →
      wpAny (model X.prog X.w) X.A (PySem.call (.ref g) [.ref t, .ref f]) (EP X pins σ Q) X.xe s1 := by
    intro f c1 pm ctv s1 Hn1 H1 J S1 e1 of nf rf hc1
    have cl1 : ClR X.K c1 (lamQ X) Γ σ Hn1 := ⟨hc1, S1.sl⟩
    refine wpAny_call (codeAny_mono (R := CR (L2.CX X.prog X.w) X.stack X.prog X.w H1 s1 Q (fun cls d H' => AirOk X cls d σ H')) ?_ fun r s' hq => ?_)
    · refine LamX.run_ofS (N := N) (ps := [sf, a]) (us := [.ref t, .ref f]) (vs := [.ref t, .ref f]) lk hcd Sc (k := kk + 1) hr J.env0 (hb s1 [.ref t, .ref f] J.kIn rfl) (.cons rfl (.cons rfl .nil)) rfl fun hr2 => ⟨_, pss_run, ?_⟩
      have hact : ∀ (pn : List (Addr × Obj)) (xe : Value → Shared → Prop) (Γz : Sl) (e1 : Expr) (p1 p2 : Pos) (Φ' : D → Mem → Prop) (Ψ' : XP), Γz[1]? = some (some (.cl f (ClR X.K c1 (lamQ X) Γ σ))) → (∀ env, starEach [e1] env = (false, eval e1 env) :: starEach [] env) →
          JA ((cxOf (L2.CX X.prog X.w) X.prog X.w X.K X.mg X.base N qual (defScope st) g cdv X.A X.stack s1 H1 (fun cls d H' => AirOk X cls d σ H')).tr pn xe) Γz M [e1] (fun ds M1 => ∃ d, ds = [d] ∧ M1 = M ∧ ok d ∧ Φ' (.bl (p d)) M) Ψ' →
          JE ((cxOf (L2.CX X.prog X.w) X.prog X.w X.K X.mg X.base N qual (defScope st) g cdv X.A X.stack s1 H1 (fun cls d H' => AirOk X cls d σ H')).tr pn xe) Γz M (.Call (.Name a p1) [e1] [] p2) Φ' Ψ' := fun pn xe Γz e1 p1 p2 Φ' Ψ' hz hst he =>
        je_actP (ia := 1) J L hx hΓl of nf rf (fun u => bind1 _ _ _ _ _ u) hr2 (fun A outer s H E d hd hr3 => lam A outer s H E c1 f _ d hd hr3 rfl) hz hN hva hd1 hd2 he hst
      have S2 : SR X.K ⟨Hn1, H1, M.map fun p : Addr × Cell => p.1⟩ M (some (.raw (.ref t)) :: some (.cl f (ClR X.K c1 (lamQ X) Γ σ)) :: List.replicate (N.length - 2) none) Hn1 H1 (L2.start N [.ref t, .ref f]) := S1.inner fun i d hi => by
        cases i with
        | zero =>
          cases hi
          exact ⟨.ref t, rfl, .raw _⟩
        | succ i =>
          cases i with
          | zero =>
            cases hi
            exact ⟨.ref f, rfl, .cl fun H2 e2 => cl1.mono e2⟩
          | succ i =>
            rw [List.getElem?_cons_succ, List.getElem?_cons_succ, List.getElem?_replicate] at hi
            split at hi <;> cases hi
      refine hbody cdv X.A X.stack s1 H1 (fun cls d H' => AirOk X cls d σ H') hr2 f _ M p ok t Φ Ψ hT hact (⟨Hn1, H1, M.map fun p : Addr × Cell => p.1⟩ : Bas) Hn1 H1 (L2.start N [.ref t, .ref f]) S2 _ ⟨fun Γ' M' Hn' H' σ' p S' => ?_, fun Γ' M' Hn' H' σ' p => p.elim, fun Γ' M' Hn' H' σ' p => p.elim, fun v d M' Hn' H' p S' rv => ?_, fun y Γ' M' Hn' H' σ' cls dd p S' ri => ?_⟩
      · exact q .non .non _ Hn' H' p (S1.behind S') (e1.trans S'.step.nn) .non
      · exact q v d _ Hn' H' p (S1.behind S') (e1.trans S'.step.nn) rv
      · exact air_of (W := fun cls d _ H2 => AirOk X cls d σ H2) (takes_of rfl rfl rfl rfl) (A y _ Hn' H' cls dd p (S1.behind S') (e1.trans S'.step.nn) ri)
    · cases r with
      | error e => exact pass_air pins H1 s1 e s' J hq
      | ok fl =>
        cases fl with
        | ret u => exact J.after hq
        | next => exact False.elim hq
        | brk => exact False.elim hq
        | cont => exact False.elim hq
  refine PySem.W.methodCall_KW (pl := pl) (thn (pe_run.run pins s σ H (fun v H1 => v = .ref t ∧ ∃ Hn1, SR X.K B M Γ Hn1 H1 σ ∧ Same Hn Hn1) I (ho B Hn H σ S A _ fun v d M1 Hn1 H1 pp S1 e1 r1 => ?_)) fun u s1 hu => ?_) ht
  · obtain ⟨rfl, rfl⟩ := pp
    cases r1
    exact ⟨rfl, Hn1, S1, e1⟩
  obtain ⟨v1, H1, I1, rv1, rfl, Hn1, S1, e1⟩ := hu
  obtain rfl : u = Value.ref t := rv1
  obtain ⟨dx, fs, hins, rfs⟩ := (S1.rep.cell _ (List.mem_of_getElem? hR)).2
  refine getmeth_ok I1 hins G.cl hme (rfs.none hm0) ?_
  refine PySem.W.callWith_K (first := [.ref t]) (h₀ := X.base) I1.ok.mod.kin hme.kp ?_ (by rfl) (by rfl)
  have hcell := (S1.rep.cell _ (List.mem_of_getElem? hM)).2
  obtain ⟨ps, hP, ht2, hall⟩ := hcell
  have hP' : H1 P = some (.tbl ps) := hP
  show wpAny _ _ (spliced ((false, eval (.Lambda params body scope lpos) X.env) :: backTo pos (starEach [] X.env))) _ _ s1
  refine Calls.spliced_cons (lam_at I1 tb hcode hP' ht2 (fun p cv hc => ?_) hdef (L.has I1.ok) (fun f c1 pm ctv s2 hc J of nf rf hco => ?_) fun f c1 pm ctv s2 nc ncP ht3 h2 J of nfc nfP nf rf => ?_)
  · obtain ⟨c1, e1, e2⟩ := hall p cv hc
    exact ⟨c1, e1, S1.rep.sub _ _ e2⟩
  · refine Calls.spliced_nil ⟨J.kIn, ?_⟩
    obtain ⟨c2, z1, z2⟩ := hall _ _ hc
    cases z1
    exact go f c1 pm ctv s2 Hn1 H1 J S1 e1 of nf rf z2
  · refine Calls.spliced_nil ⟨J.kIn, ?_⟩
    have nn : Hn1 c1 = none := S1.rep.nn nc
    have sn := same_upd (o := LamX.CodeO c1 (lamQ X)) nn
    have S2 := S1.alloc (o := LamX.CodeO c1 (lamQ X)) nc
    have S3 := S2.put (o := .tbl (ps ++ #[rawInt lpos.line, rawInt lpos.col, .ref c1])) (c' := .tab (lamQ X)) hM ⟨_, upd_same, ht3, fun p cv hcv => ?_⟩
    · rw [set_same hM, upd_swap ncP] at S3
      refine go f c1 pm ctv s2 _ _ J S3 (e1.trans sn) of ?_ rf upd_same
      rw [upd_ne nfc, upd_ne nfP]
      exact nf
    · rcases h2 p cv hcv with z | z
      · obtain ⟨c2, z1, z2⟩ := hall p cv z
        exact ⟨c2, z1, sn _ _ z2⟩
      · exact ⟨c1, z, upd_same⟩
end
/-- the end of a claim whose methods make lambdas (cs: their codes and tables) -/
theorem walk_ofM {l : PySem.W.OpenLaw} {n k : Nat} {q : Program} {loose : List Str} {XP : (Str → Option Value) → Heap → Prop} {YP : World → Heap → Prop} {d : DefRec} {K : Params → PySem.W.Frag} {sp : World → Sp} {x : Str} {cs : World → List (Addr × Addr)}
    (most : l.most = some n) (mostLine : n ≤ sizeLine) (noDflt : d.params.defaults = []) (room : Room k callerA) (kinY : ∀ (w : World) (h : Heap), YP w h → (K w.params).In h)
    (codes : ∀ (w : World), ∀ p ∈ cs w, PySem.W.codeHdIn (K w.params) p.1 p.2 = true ∧ (K w.params).lookup p.2 = none) (tabs : ∀ (w : World) (h : Heap), YP w h → ∀ p ∈ cs w, h.get? p.2 = some tab0)
    (F : ∀ (w : World) (mg : Str → Option Value) (fa : Addr) (h : Heap), (K w.params).In h → h.Ns mainGlobals mg → mg d.name = some (.ref fa) → ∃ fd : FuncData, (∀ (s : Shared) (u : Value), BindsTo s fd ⟨[u], []⟩ [(x, u)]) ∧
      ∀ base : Heap, (K w.params).In base → base.Ns mainGlobals mg → (∀ p ∈ cs w, LamX.TabB base mg p.1 p.2) → FnG l.prog w (K w.params) mg base k fa fd [x] (sp w))
    (want : ∀ (w : World) (H : Hp) (a : Addr) (ns : List Int), ns.length ≤ n → (∀ z ∈ ns, Builtin.Int.intBits z ≤ 1048576) → (∀ p ∈ cs w, H p.2 = some (.tbl #[])) → (∀ b o, H b = some o → b = a ∨ b ∈ (cs w).map (·.2)) → SqL (K w.params) H a (ns.map V.int) → sp w [.ref a] H (fun v _ => v = .bl true) fun _ _ _ => False) :
    PySem.W.WalkO q loose XP YP l.row.toRowW d [] (fun f vs => PySem.call f vs) := by
  refine Att.attach_callB most noDflt fun w t0 t1 mg mb fa o pm cd doc a vs ns G Y ho hd hcd hmg script areI len bits gens => ?_
  have kin := kinY w _ Y
  obtain ⟨fd, binds, okF⟩ := F w mg fa _ kin G.T.g hmg
  exact law_at kin G.T.g G.T.b G.T.builtins G.T.nolimit gens (fun p hp => tabs w _ Y p hp) (fun p hp => (codes w p hp).2) (fun p hp => PySem.W.codeHd_of_K kin (codes w p hp).1) G.T.bmain script areI (Nat.le_trans len mostLine) room okF binds fun H h1 h2 h3 => want w H a ns len bits h1 h2 h3
end DL
end

section
set_option Elab.async false
set_option linter.all false
set_option maxRecDepth 100000
set_option maxHeartbeats 4000000
/-! x != y by the class's own __eq__. -/
namespace DL
open PySem PySem.Spec PyProof.Rows L2
section
variable {M : Model} {A : Around} {E : Value → Shared → Prop} {s : Shared} {K : PySem.W.Frag} {x C : Addr} {ox : Obj} {od : Option Obj}
theorem ifBound_objNe {args : List Value} {Q : Option Value → Shared → Prop} (X : K.In s.heap) (I : PySem.W.InstAt s.heap x ox C od) (hs : PySem.W.findIn K (.ref C) "__ne__" = some (some (.builtin "object.__ne__")))
    (h : wpAny M A (call (.builtin "object.__ne__") (.ref x :: args)) (fun v => Q (some v)) E s) : wpAny M A (callSpecialIfBound? (.ref x) "__ne__" args) Q E s := by
  simp only [callSpecialIfBound?, bindSpecialIfBound?]
  refine wpAny_holding (wpAny_bind (wpAny_bind (wpAny_bind (I.type.here ((PySem.W.looks_findIn X hs).here ?_)))))
  refine wpAny_bind (wpAny_askSetting (wpAny_ite ?_))
  have fin : wpAny M A (call (.builtin "object.__ne__") ([.ref x] ++ args) >>= fun v => pure (some v)) Q E s := wpAny_bind (wpAny_mono h (fun v s' h' => wpAny_pure h') fun _ _ h' => h')
  split
  · exact wpAny_bind (wpAny_of_eq (F.cmp_object.ne.bind _) (wpAny_pure (by exact fin)))
  · exact wpAny_tryCatch (wpAny_bind (wpAny_of_eq (F.cmp_object.ne.bind _) (wpAny_pure (by exact fin))))
end
section
variable {X : Cx} {k : Nat} {C f : Addr} {fd : FuncData} {ps : List Str} {sp : Sp}
def rOwnNe (X : Cx) (C : Addr) (sp : Sp) : R2 := fun x y H Q => ∃ a dx fs, x = .ref a ∧ H a = some (.ins C dx fs) ∧ Kind2 X C H y ∧ sp [x, y] H (fun v H' => ∃ b, v = .bl b ∧ Q (.bl (!b)) H') fun _ _ _ => False
theorem op_ownNe (F : FnOk X.prog X.w X.K X.mg X.base (L2.CX X.prog X.w) k f fd ps sp) (hm : Meth X.K C "__eq__" f) (hne : PySem.W.findIn X.K (.ref C) "__ne__" = some (some (.builtin "object.__ne__"))) (hob : PySem.W.mroIn X.K C (.type "object") = some true) (hb : Binds X.K fd ps []) (hr : Room (k + 1) X.A) : OpR X (compareOp .NotEq) (rOwnNe X C sp) := by
  intro pins s σ H x y v u Q I rx ry h
  obtain ⟨a, dx, fs, rfl, ha, hk, hsp⟩ := h
  cases rx
  obtain ⟨mA, J, _⟩ := ins_get I.hok ha
  obtain ⟨od, J, _⟩ := J.look
  have hu : X.A.units + 1 < cLine := by have := hr.units; omega
  have hty : ∃ tb, PySem.W.Looks (model X.prog X.w) s.heap (typeOf u) tb ∧ PySem.W.notFirst X.K C tb = true := by
    rcases hk with ⟨b, dy, gs, rfl, hb'⟩ | ⟨b, ys, rfl, hq, hn⟩
    · cases ry
      obtain ⟨mB, J', _⟩ := ins_get I.hok hb'
      obtain ⟨od', J', _⟩ := J'.look
      exact ⟨_, J'.type, by simp [PySem.W.notFirst]⟩
    · cases ry
      obtain ⟨its, _, ⟨o, e, c, _⟩, _⟩ := I.tuple hq
      exact ⟨.type "tuple", c ▸ (PySem.W.Looks.ld e).andThen .now, hn⟩
  obtain ⟨tb, lk, hn⟩ := hty
  show wpAny (model X.prog X.w) X.A (richCompare .NotEq (.ref a) u) (EP X pins σ Q) X.xe s
  have callf : codeAny (model X.prog X.w) X.A.in1 (.call (.ref f) ⟨[.ref a, u], []⟩) (fun r s' => ∃ b : Bool, r = .ok (.ret (.bool b)) ∧ EP X pins σ Q (.bool (!b)) s') s := by
    have e0 : Env0 X.prog X.w X.K X.mg X.base X.A.in1 X.stack s H := by
      have e := I.env0
      exact ⟨e.frames, e.mod, e.bs, e.bsz, e.funs, e.frf, e.hok, e.bare⟩
    have hl := F.len _ _ _ _ hsp
    refine codeAny_mono (F.run X.A.in1 X.stack s H ⟨[.ref a, u], []⟩ [.ref a, u] [.ref a, y] _ (fun _ _ _ => False) hr.in1 e0 (by
      have := hb s [.ref a, u] I.kIn (by simpa using hl)
      simpa using this) (.cons rfl (.cons ry .nil)) hsp) fun r s' hq => ?_
    cases r with
    | error e =>
      obtain ⟨_, _, _, _, _, _, _, _, _, _, _, _, z⟩ := hq
      exact z.elim
    | ok fl =>
      cases fl with
      | ret w =>
        obtain ⟨z, H', I', rz, b, rfl, q⟩ := I.after hq
        cases rz
        exact ⟨b, rfl, .bl (!b), H', I', rfl, q⟩
      | next => exact False.elim hq
      | brk => exact False.elim hq
      | cont => exact False.elim hq
  have one : wpAny (model X.prog X.w) X.A (tryCompare (.ref a) "__ne__" u) (fun r s' => ∃ b : Bool, r = some (.bool (!b)) ∧ EP X pins σ Q (.bool (!b)) s') X.xe s := by
    unfold tryCompare
    refine wpAny_bind (ifBound_objNe I.kIn J hne (wpAny_call (codeAny_call_builtin PySem.F.cmp_object.ne.plain PySem.F.cmpEntry_ne (PySem.W.check_slot PySem.F.cmpKind_ne PySem.F.cmpSplit_ne (J.type.andThen (PySem.W.looks_mroIn I.kIn hob)) (PySem.F.cmpArgs_ne _ _) ?_))))
    unfold Builtin.«object.__ne__»
    repeat (first | with_reducible refine wpAny_cRoomFor (show X.A.in1.units < cLine from hu) ?_ | with_reducible refine PySem.W.ifBound_K I.kIn J hm.at_ hm.fn ?_ | wp_step)
    refine codeAny_mono callf fun r s' z => ?_
    obtain ⟨b, rfl, q⟩ := z
    repeat wp_step
    exact ⟨b, rfl, q⟩
  unfold richCompare
  simp only [oneThing_ref]
  refine wpAny_holding (wpAny_bind (wpAny_cRoomFor (Nat.lt_of_succ_lt hu) ?_))
  refine wpAny_bind (J.type.here (wpAny_bind (lk.here ?_)))
  split
  · rename_i q
    have e : PySem.W.subIn X.K tb (.ref C) = some false := by
      rcases Bool.or_eq_true_iff.mp hn with e | e
      · rw [beq_iff_eq.mp e] at q; simp at q
      · exact beq_iff_eq.mp e
    refine wpAny_bind ((PySem.W.looks_subIn I.kIn e).here ?_)
    simp only [Bool.false_eq_true, if_false]
    refine wpAny_bind (wpAny_mono one (fun r s' z => ?_) fun _ _ e => e)
    obtain ⟨b, rfl, hq⟩ := z
    exact wpAny_pure hq
  · refine wpAny_bind (wpAny_pure ?_)
    simp only [Bool.false_eq_true, if_false]
    refine wpAny_bind (wpAny_mono one (fun r s' z => ?_) fun _ _ e => e)
    obtain ⟨b, rfl, hq⟩ := z
    exact wpAny_pure hq
end
section
variable {X : Cx} {M : Mem} {Φ : D → Mem → Prop} {k : Nat} {C : Addr} {spec : DL.Spec}
/-- x != y, both instances of the class, by its own __eq__ -/
theorem opd_ownNe {x y : D} (G : GMe X.prog X.w X.K X.mg X.base k C "__eq__" [] spec) (hne : PySem.W.findIn X.K (.ref C) "__ne__" = some (some (.builtin "object.__ne__"))) (hob : PySem.W.mroIn X.K C (.type "object") = some true) (hr : Room (k + 1) X.A) (hx : InsAt M C "__eq__" x) (hy : ∃ fs, y = .ins C fs) (u : spec [x, y] [] (fun d _ => ∃ b, d = .bl b ∧ Φ (.bl (!b)) M) noX) : OpD X (compareOp .NotEq) x y M Φ := fun B Γ Hn H σ v w Q S rx ry q => by
  obtain ⟨f, fd, ps, us, dvs, F, hm, hb, hv, hd⟩ := G.ex
  obtain rfl := no_dvs hv hd
  refine ⟨_, op_ownNe F hm hne hob hb hr, ?_⟩
  obtain ⟨a, dx, fs, rfl, ha, _⟩ := hx.at S.rep rx
  refine ⟨a, dx, fs, rfl, ha, ?_, ?_⟩
  · obtain ⟨fs, rfl⟩ := hy
    cases ry with
    | @ins b _ dy gs _ h1 _ => exact .inl ⟨b, dy, gs, rfl, S.rep.sub _ _ h1⟩
  · refine ⟨[x, y], [], Hn, _, _, .cons rx (.cons ry .nil), S.rep.part (fun p hp => by simp at hp) (by simp), u, fun v d M' Hn' H' p R st e rv => ?_, fun x M' Hn' H' cls dd p R st e ri => p.elim⟩
    obtain ⟨b, rfl, p⟩ := p
    have S' := S.call (M0 := []) (M' := M) (fun p hp => by simp at hp) R st e rfl fun p hp => .inr ⟨hp, by simp⟩
    cases rv
    exact ⟨b, rfl, q _ _ _ Hn' H' p S' st.nn (.bl (!b))⟩
end
end DL
end

section
set_option Elab.async false
set_option linter.all false
set_option maxRecDepth 100000
set_option maxHeartbeats 4000000
/-! in a tuple of texts; int(text); text.split as a cell; f'..'. -/
namespace DL
open PySem PySem.Spec PyProof.Rows L2
section
variable {X : Cx} {M : Mem} {Φ : D → Mem → Prop}
theorem all_strV : ∀ ys : List Str, (ys.map V.str).all flatV = true
  | [] => rfl
  | y :: ys => by
    rw [List.map_cons, List.all_cons, all_strV ys]
    rfl
theorem inV_str (z : Str) : ∀ ys : List Str, inV (.str z) (ys.map V.str) = decide (z ∈ ys)
  | [] => by simp [inV]
  | y :: ys => by
    have e : inV (.str z) ((y :: ys).map V.str) = (eqV (.str y) (.str z) || inV (.str z) (ys.map V.str)) := rfl
    rw [e, inV_str z ys]
    have e2 : eqV (.str y) (.str z) = decide (z = y) := by
      show (y == z) = decide (z = y)
      rw [Bool.eq_iff_iff, beq_iff_eq, decide_eq_true_iff]
      exact eq_comm
    rw [e2, Bool.eq_iff_iff]
    simp [List.mem_cons]
theorem opd_inT {z : Str} {ys : List Str} (h : Φ (.bl (decide (z ∈ ys))) M) : OpD X (compareOp .In) (.str z) (.tup (ys.map .str)) M Φ := fun B Γ Hn H σ v u Q S rx ry q => by
  cases rx
  cases ry with
  | @tup p ws _ h1 r1 =>
    have e := strs_of r1
    subst e
    refine ⟨_, op_in_seq, p, ys.map V.str, rfl, .inr (same_t S.rep.sub h1), rfl, all_strV ys, ?_⟩
    rw [inV_str]
    exact q _ _ _ _ _ h S (Same.refl _) (.bl _)
theorem opd_notInT {z : Str} {ys : List Str} (h : Φ (.bl (!decide (z ∈ ys))) M) : OpD X (compareOp .NotIn) (.str z) (.tup (ys.map .str)) M Φ := fun B Γ Hn H σ v u Q S rx ry q => by
  cases rx
  cases ry with
  | @tup p ws _ h1 r1 =>
    have e := strs_of r1
    subst e
    refine ⟨_, op_notIn_seq, p, ys.map V.str, rfl, .inr (same_t S.rep.sub h1), rfl, all_strV ys, ?_⟩
    show Q (.bl (!inV _ _)) H
    rw [inV_str]
    exact q _ _ _ _ _ h S (Same.refl _) (.bl _)
theorem cd_intS {z : Str} {n : Int} (hn : PySem.intText? z = some n) (hl : z.length ≤ 640) (h : Φ (.int n) M) : CallD X (.type "int") [.str z] M Φ := fun B Γ Hn H σ vs Q S rr q => by
  obtain ⟨u, rfl, ru⟩ := rr.one
  cases ru
  exact ⟨_, call_int_str, z, n, rfl, hn, hl, q _ _ _ _ _ h S (Same.refl _) (.int _)⟩
/-- the list, new, may change -/
theorem md_splitC {a b : Str} (hb : (b.length == 0) = false) (hl : a.length + 2 ≤ 1000000) (h : ∀ t, Φ (.raw (.ref t)) (M ++ [(t, .lst ((Txt.split a b).map .str))])) : MetD X "str.split" (.str a) [.str b] M Φ := fun B Γ Hn H σ v vs Q S r rr q => by
  cases r
  obtain ⟨u, rfl, ru⟩ := rr.one
  cases ru
  refine ⟨_, mt_split, a, b, rfl, rfl, hb, by rw [sizeLine_eq]; omega, fun p hp => ?_⟩
  exact q _ _ _ _ _ (h p) (S.cell hp ⟨_, upd_same, isA_strs _⟩) (Same.refl _) (.raw _)
end
section
variable {X : Cx} {Γ : Sl} {Ψ : XP}
/-- the parts of f'..', from acc on -/
def JJ (X : Cx) (Γ : Sl) (Ψ : XP) (Φ : Str → Mem → Prop) : List Expr → Str → Mem → Prop
  | [], acc, M => Φ acc M
  | e :: es, acc, M => JE X Γ M e (fun d M1 => ∃ y, d = .str y ∧ acc.length + y.length ≤ 1000000 ∧ JJ X Γ Ψ Φ es (acc ++ y) M1) Ψ
theorem pj_all : ∀ es : List Expr, PJ X es (es.map fun e => RunE X e)
  | [] => .nil
  | e :: es => .cons pe_run (pj_all es)
theorem jj_run {Φ : Str → Mem → Prop} : ∀ (es : List Expr) (acc : Str) (M : Mem), JJ X Γ Ψ Φ es acc M → ∀ (B : Bas) (Hn H : Hp) (σ : L2.St), SR X.K B M Γ Hn H σ → Air X B Γ Hn σ Ψ → ∀ Q : Str → Hp → Prop, (∀ out M' Hn' H', Φ out M' → SR X.K B M' Γ Hn' H' σ → Same Hn Hn' → Q out H') → tJs (es.map fun e => RunE X e) acc σ H Q
  | [], acc, M, h, B, Hn, H, σ, S, A, Q, q => q acc M Hn H h S (Same.refl _)
  | e :: es, acc, M, h, B, Hn, H, σ, S, A, Q, q => by
    refine h B Hn H σ S A _ fun v d M1 Hn1 H1 p S1 e1 r1 => ?_
    obtain ⟨y, rfl, hl, p⟩ := p
    cases r1
    refine ⟨y, rfl, ?_, jj_run es (acc ++ y) M1 p B Hn1 H1 σ S1 (A.mono e1) Q fun out M' Hn' H' p2 S2 e2 => q out M' Hn' H' p2 S2 (e1.trans e2)⟩
    have e : (acc ++ y).length = acc.length + y.length := by
      show (acc.cps ++ y.cps).size = acc.cps.size + y.cps.size
      rw [Array.size_append]
    rw [e, sizeLine_eq]
    omega
variable {M : Mem} {Φ : D → Mem → Prop} {e v1 v2 : Expr} {rest : List Expr} {pos : Pos}
/-- f'..' of two parts or more -/
theorem je_joined (h : JJ X Γ Ψ (fun out M1 => Φ (.str out) M1) (v1 :: v2 :: rest) Str.empty M) : JE X Γ M (.JoinedStr (v1 :: v2 :: rest) pos) Φ Ψ := fun B Hn H σ S A Q q => by
  refine run_pe (pe_joined (pj_all (v1 :: v2 :: rest))) ?_
  exact jj_run _ _ _ h B Hn H σ S A _ fun out M' Hn' H' p S1 e1 => q _ _ M' Hn' H' p S1 e1 (.str out)
/-- {e}: a text or a number -/
theorem je_fmt (h : JE X Γ M e (fun d M1 => (∃ y : Str, d = .str y ∧ y.length ≤ 1000000 ∧ Φ (.str y) M1) ∨ ∃ i : Int, d = .int i ∧ i.natAbs.log2 < 1920 ∧ Φ (.str (toString i)) M1) Ψ) : JE X Γ M (.FormattedValue e (-1) none pos) Φ Ψ := fun B Hn H σ S A Q q => by
  refine run_pe (pe_fmt pe_run) ?_
  refine h B Hn H σ S A _ fun v d M1 Hn1 H1 p S1 e1 r1 => ?_
  rcases p with ⟨y, rfl, hl, p⟩ | ⟨i, rfl, hl, p⟩
  · cases r1
    exact .inl ⟨y, rfl, by rw [sizeLine_eq]; omega, q _ _ _ _ _ p S1 e1 (.str y)⟩
  · cases r1
    exact .inr ⟨i, rfl, hl, q _ _ _ _ _ p S1 e1 (.str _)⟩
end
section
variable {X : Cx} {Γ : Sl} {M : Mem} {P : Post} {e o : Expr} {pos pos' : Pos}
/-- self.f -= e, self a cell, numbers -/
theorem js_fldsubI (k : Nat) {f : Str} (h : JE X Γ M o (fun x M1 => ∃ t C fs i, x = .raw (.ref t) ∧ M1[k]? = some (t, .ins C fs) ∧ Cls X.K C ∧ NoAttr X.K C f ∧ fs.lookup f = some (.int i) ∧
      JE X Γ M1 e (fun d M2 => ∃ (j : Int) (gs : List (Str × D)), d = .int j ∧ M2[k]? = some (t, .ins C gs) ∧ gs.length < 900 ∧ P.nx Γ (M2.set k (t, .ins C (putD f (.int (i - j)) gs)))) (fun x M1 => P.ex x Γ M1)) (fun x M1 => P.ex x Γ M1)) :
    JS X Γ M (.AugAssign (.Attribute o f pos') .Sub e pos) P := fun B Hn H σ S De ok => by
  refine run_ps (ps_fldaug pe_run pe_run in_sub) ?_
  refine h B Hn H σ S ok.air _ fun w x M1 Hn1 H1 p1 S1 e1 r1 => ?_
  obtain ⟨t, C, fs, i, rfl, hk, c, n, hl, p1⟩ := p1
  cases r1
  obtain ⟨dx, gs, h1, rf⟩ := (S1.rep.cell _ (List.mem_of_getElem? hk)).2
  obtain ⟨v, hv, rv⟩ := rf.get hl
  cases rv
  refine ⟨t, C, dx, gs, .int i, rfl, h1, c, n, hv, ?_⟩
  refine p1 B Hn1 H1 σ S1 ok.air _ fun u y M2 Hn2 H2 p2 S2 e2 r2 => ?_
  obtain ⟨j, gs2, rfl, hk2, hlen, p2⟩ := p2
  cases r2
  obtain ⟨dx2, ws, h2, rf2⟩ := (S2.rep.cell _ (List.mem_of_getElem? hk2)).2
  exact ⟨i, j, rfl, rfl, dx2, ws, h2, by rw [rf2.length]; omega, ok.nx _ _ _ _ _ p2 (S2.put hk2 ⟨dx2, _, upd_same, rf2.put (.int (i - j))⟩)⟩
end
end DL
end

section
set_option Elab.async false
set_option linter.all false
set_option maxRecDepth 100000
set_option maxHeartbeats 4000000
/-! The rule for a def whose code must be known. -/
namespace DL
open PySem PySem.Spec PyProof.Rows L2
theorem fn_core {Pg : Program} {w : World} {K : PySem.W.Frag} {mg : Str → Option Value} {base : Heap} {x qual : Str} {st : Stmt} {f : Addr} {fd : FuncData} {N ps : List Str} {k : Nat} {spec : Spec} (ex : ∃ (oc : Value) (od : Option Addr) (dV kV doc pm : Value) (an : Option Addr) (cdv ct : Value) (osl : Array (Option Value)), fd = PySem.W.fnOf x qual (defArgs st) (defBody st) (defScope st) dV kV doc pm an cdv ct ∧ K.lookup f = some ⟨oc, od, .func fd, osl⟩ ∧ PySem.W.codeIn K cdv qual = true) (Sc : FnScope N ps (defScope st))
    (len : ∀ ds M Φ Ψ, spec ds M Φ Ψ → ds.length = ps.length)
    (body : ∀ (cdv : Value) (A : Around) (outer : List Env) (s : Shared) (H : Hp) (E : XK), Room k (A.deeper (envOfC qual (defScope st) s.heap.objs.size f cdv)) → fd.code = cdv → ∀ ds M Φ Ψ, spec ds M Φ Ψ →
      JSs (cxOf (L2.CX Pg w) Pg w K mg base N qual (defScope st) f cdv A outer s H E) (ds.map some ++ List.replicate (N.length - ds.length) none) M (defBody st)
        { nx := fun _ M' => Φ .non (M'.take M.length), rt := fun d M' => Φ d (M'.take M.length), ex := fun x _ M' => Ψ x (M'.take M.length) }) : FnOk Pg w K mg base (L2.CX Pg w) (k + 1) f fd ps (spD K spec) := by
  obtain ⟨oc, od, dV, kV, doc, pm, an, cdv, ct, osl, rfl, lk, hcd⟩ := ex
  refine ⟨fun vs H Q E h => ?_, fun A outer s H args us vs Q E hr e0 hb r h => ?_⟩
  · obtain ⟨ds, M, Hn, Φ, Ψ, r, _, hsp, _⟩ := h
    rw [r.length]
    exact len _ _ _ _ hsp
  have hl : vs.length = ps.length := by
    obtain ⟨ds, M, Hn, Φ, Ψ, r, _, hsp, _⟩ := h
    rw [r.length]
    exact len _ _ _ _ hsp
  refine LamX.run_ofS (N := N) (k := k) lk hcd Sc hr e0 hb r hl fun hr2 => ⟨_, pss_run, ?_⟩
  obtain ⟨ds, M, Hn, Φ, Ψ, ra, R, hsp, q, qx⟩ := h
  have S : SR K ⟨Hn, H, M.map fun p : Addr × Cell => p.1⟩ M (ds.map some ++ List.replicate (N.length - ds.length) none) Hn H (L2.start N vs) := by
    refine ⟨R, Step.refl, fun p hp => .inl (List.mem_map_of_mem hp), List.prefix_refl _, fun i d hi => ?_⟩
    unfold L2.start
    rcases Nat.lt_or_ge i ds.length with lt | ge
    · rw [List.getElem?_append_left (by rw [List.length_map]; exact lt), List.getElem?_map] at hi
      cases hd : ds[i]? with
      | none => rw [hd] at hi; cases hi
      | some d2 =>
        rw [hd] at hi
        cases hi
        obtain ⟨v, hv, rv⟩ := ra.get hd
        exact ⟨v, by rw [List.getElem?_append_left (by rw [List.length_map, ra.length]; exact lt), List.getElem?_map, hv]; rfl, rv⟩
    · rw [List.getElem?_append_right (by rw [List.length_map]; exact ge), List.getElem?_replicate] at hi
      split at hi <;> cases hi
  refine body cdv A outer s H E hr2 rfl ds M Φ Ψ hsp (⟨Hn, H, M.map fun p : Addr × Cell => p.1⟩ : Bas) Hn H (L2.start N vs) S _ ⟨fun Γ' M' Hn' H' σ' p S' => ?_, fun Γ' M' Hn' H' σ' p => p.elim, fun Γ' M' Hn' H' σ' p => p.elim, fun v d M' Hn' H' p S' rv => ?_, fun x Γ' M' Hn' H' σ' cls dd p S' ri => ?_⟩
  · exact q .non .non _ Hn' H' p S'.left.1 S'.step S'.left.2 .non
  · exact q v d _ Hn' H' p S'.left.1 S'.step S'.left.2 rv
  · exact air_of (W := fun cls d _ H2 => E cls d H2) (takes_of rfl rfl rfl rfl) (qx x _ Hn' H' cls dd p S'.left.1 S'.step S'.left.2 ri)
theorem fn_dk {Pg : Program} {w : World} {K : PySem.W.Frag} {mg : Str → Option Value} {base : Heap} {x qual : Str} {st : Stmt} {f : Addr} {fd : FuncData} {N ps : List Str} {k : Nat} {spec : Spec} (F : Fun K x qual st f fd) (Sc : FnScope N ps (defScope st))
    (len : ∀ ds M Φ Ψ, spec ds M Φ Ψ → ds.length = ps.length)
    (body : ∀ (cdv : Value) (A : Around) (outer : List Env) (s : Shared) (H : Hp) (E : XK), Room k (A.deeper (envOfC qual (defScope st) s.heap.objs.size f cdv)) → fd.code = cdv → ∀ ds M Φ Ψ, spec ds M Φ Ψ →
      JSs (cxOf (L2.CX Pg w) Pg w K mg base N qual (defScope st) f cdv A outer s H E) (ds.map some ++ List.replicate (N.length - ds.length) none) M (defBody st)
        { nx := fun _ M' => Φ .non (M'.take M.length), rt := fun d M' => Φ d (M'.take M.length), ex := fun x _ M' => Ψ x (M'.take M.length) }) : FnOk Pg w K mg base (L2.CX Pg w) (k + 1) f fd ps (spD K spec) := by
  obtain ⟨oc, od, kV, doc, pm, an, cdv, ct, osl, e, lk, hcd⟩ := F.ex
  exact fn_core (x := x) ⟨oc, od, _, kV, doc, pm, an, cdv, ct, osl, e, by rw [e]; rw [e] at lk; exact lk, hcd⟩ Sc len body
theorem fn_dDk {Pg : Program} {w : World} {K : PySem.W.Frag} {mg : Str → Option Value} {base : Heap} {x qual : Str} {st : Stmt} {f : Addr} {fd : FuncData} {N ps : List Str} {k : Nat} {spec : Spec} {dvs : List V} {kws : List (Str × V)} (F : FunD K x qual (defArgs st) (defBody st) (defScope st) dvs kws f fd) (Sc : FnScope N ps (defScope st))
    (len : ∀ ds M Φ Ψ, spec ds M Φ Ψ → ds.length = ps.length)
    (body : ∀ (cdv : Value) (A : Around) (outer : List Env) (s : Shared) (H : Hp) (E : XK), Room k (A.deeper (envOfC qual (defScope st) s.heap.objs.size f cdv)) → fd.code = cdv → ∀ ds M Φ Ψ, spec ds M Φ Ψ →
      JSs (cxOf (L2.CX Pg w) Pg w K mg base N qual (defScope st) f cdv A outer s H E) (ds.map some ++ List.replicate (N.length - ds.length) none) M (defBody st)
        { nx := fun _ M' => Φ .non (M'.take M.length), rt := fun d M' => Φ d (M'.take M.length), ex := fun x _ M' => Ψ x (M'.take M.length) }) : FnOk Pg w K mg base (L2.CX Pg w) (k + 1) f fd ps (spD K spec) := by
  obtain ⟨oc, od, dV, kV, doc, pm, an, cdv, ct, osl, e, lk, hcd, _⟩ := F.ex
  exact fn_core (x := x) ⟨oc, od, dV, kV, doc, pm, an, cdv, ct, osl, e, lk, hcd⟩ Sc len body
section
variable {X : Cx} {Γ : Sl} {M : Mem} {Ψ : XP} {o i : Expr} {pos : Pos} {Φb : Bool → Mem → Prop}
/-- a test: is y a key of x -/
theorem jt_in_dic (hu : X.A.units + 1 < cLine) (h : JE X Γ M i (fun y M1 => JE X Γ M1 o (fun x M2 => ∃ z, DicHas M2 x y z ∧ Φb z.isSome M2) Ψ) Ψ) (hm : behindInMarks .In o = false := by rfl) : JT X Γ M (.Compare i [.In] [o] pos) Φb Ψ := fun B Hn H σ S A Q q => by
  refine run_pt (pt_cmp (pc_din hu pe_run pe_run) hm) ?_
  refine h B Hn H σ S A _ fun u d M1 Hn1 H1 p1 S1 e1 r1 => ?_
  refine p1 B Hn1 H1 σ S1 (A.mono e1) _ fun v d2 M2 Hn2 H2 p2 S2 e2 r2 => ?_
  obtain ⟨z, hz, p2⟩ := p2
  obtain ⟨a, w, rfl, g, _, hw⟩ := hz.get S2.rep r2 (r1.mono e2)
  refine ⟨a, w, rfl, g, ?_⟩
  have ew : w.isSome = z.isSome := by
    rcases hw with ⟨d, e, rfl, rfl, _⟩ | ⟨rfl, rfl⟩ <;> rfl
  rw [ew]
  exact ⟨_, rfl, q _ _ _ _ p2 S2 (e1.trans e2)⟩
end
end DL
end

section
set_option Elab.async false
set_option linter.all false
set_option maxRecDepth 100000
set_option maxHeartbeats 4000000
/-! [d[k] for k in d], d a cell with tuple keys. -/
namespace DL
open PySem PySem.Spec PyProof.Rows L2
theorem IsT.key {K : PySem.W.Frag} {H : Hp} : ∀ {ks : List (List Key × V)} {ds : List (D × D)} {i : Nat} {k : List Key} {v : V}, IsT K H ks ds → ks[i]? = some (k, v) → ∃ d, ds[i]? = some (tkD k, d)
  | _, _, i, k, v, .nil, h => by cases h
  | _, _, 0, k, v, .cons (d := d) a b, h => by
    cases h
    exact ⟨d, rfl⟩
  | _, _, i + 1, k, v, .cons a b, h => IsT.key (i := i) b (by simpa using h)
theorem lkD_at : ∀ {kvs : List (D × D)} {i : Nat} {k d : D}, (kvs.map (·.1)).Nodup → kvs[i]? = some (k, d) → lkD kvs k = some d
  | [], i, k, d, _, h => by cases h
  | (k0, d0) :: r, 0, k, d, _, h => by
    cases h
    simp [lkD]
  | (k0, d0) :: r, i + 1, k, d, nd, h => by
    have h' : r[i]? = some (k, d) := by simpa using h
    rw [List.map_cons, List.nodup_cons] at nd
    have ne : ¬ k0 = k := fun e => nd.1 (by
      rw [e]
      exact List.mem_map.mpr ⟨(k, d), List.mem_of_getElem? h', rfl⟩)
    have ih := lkD_at nd.2 h'
    unfold lkD at ih ⊢
    rw [List.find?_cons_of_neg (by simpa using ne)]
    exact ih
section
variable {X : Cx} {Γ : Sl} {M : Mem} {Φ : D → Mem → Prop} {Ψ : XP}
theorem je_valsT {im ik k : Nat} {t : Addr} {kvs : List (D × D)} {own : List (Str × Nat)} {a b : Str} {pi pe1 pe2 pe3 pos : Pos} {tg : Expr} {scope : Scope} (hN : X.N.Nodup) (ok : BlkOk X.N X.env.scope scope own) (hown : own.map (·.2) = [ik]) (hu : X.A.units + 1 < cLine)
    (hit : PE X (.Name a pi) (tVar im)) (hg : ∀ (s : Shared) (H : Hp) (C : Addr) (cl : List (Str × Addr)) (fp : List Addr), PG (X.blk s H scope (compEnvC scope cl C X.env) fp) tg (gName ik))
    (he1 : ∀ (s : Shared) (H : Hp) (C : Addr) (cl : List (Str × Addr)) (fp : List Addr), PE (X.blk s H scope (compEnvC scope cl C X.env) fp) (.Name a pe1) (tVar im))
    (he2 : ∀ (s : Shared) (H : Hp) (C : Addr) (cl : List (Str × Addr)) (fp : List Addr), PE (X.blk s H scope (compEnvC scope cl C X.env) fp) (.Name b pe2) (tVar ik))
    (hΓ : Γ[im]? = some (some (.raw (.ref t)))) (hne : im ≠ ik) (hik : ik < X.N.length) (hM : M[k]? = some (t, .dT kvs)) (hnd : (kvs.map (·.1)).Nodup) (hl : kvs.length ≤ 1000000) (h : Φ (.lst (kvs.map (·.2))) M) (hs : ∀ x, foldedSetIterable (.Name a pi) X.env x = pure x := by intro _; rfl) (hc : X.calm = true := by rfl) :
    JE X Γ M (.ListComp (.Subscript (.Name a pe1) (.Name b pe2) pe3) [⟨tg, .Name a pi, [], 0⟩] scope pos) Φ Ψ := fun B Hn H σ S A Q q pins s I => by
  have hσ := I.len
  obtain ⟨v0, hv0, r0⟩ := S.sl im _ hΓ
  cases r0
  obtain ⟨ks, h1, rk⟩ := (S.rep.cell _ (List.mem_of_getElem? hM)).2
  have lk := rk.length
  refine run_pe (pe_lock (pe_lc hc hN (pi_keys hit) ok hg (fun s H C cl fp => pts_nil) (fun s H C cl fp => pe_dget (by exact hu) (he1 s H C cl fp) (he2 s H C cl fp) (fun _ _ => rfl)) hs)) ?_ pins s I
  rw [hown]
  refine ⟨t, .dT ks, h1, True.intro, fun od => ?_⟩
  refine ⟨.ref t, hv0, t, od, rfl, .inr ⟨ks, upd_same, fun D hD => ?_⟩⟩
  have nDt : D ≠ t := fun e => by
    rw [e, upd_same] at hD
    cases hD
  have hD' : H D = none := by rw [upd_ne nDt] at hD; exact hD
  refine ⟨fun i m H' => m = ks.length - i ∧ i ≤ ks.length ∧ ∃ ws, IsA X.K Hn ws ((kvs.take i).map (·.2)) ∧ H' = upd (upd H t (.frz od (.dT ks))) D (.lst ws), ⟨ks.length, by simp, Nat.zero_le _, [], .nil, rfl⟩, ?_⟩
  rintro i m H' ⟨rfl, hi, ws, rws, rfl⟩
  have ht : upd (upd H t (.frz od (.dT ks))) D (.lst ws) t = some (.frz od (.dT ks)) := by rw [upd_ne (Ne.symm nDt), upd_same]
  by_cases hlt : i < ks.length
  · refine .inr ⟨⟨ht, hlt⟩, fun H3 => ∃ ws, IsA X.K Hn ws ((kvs.take (i + 1)).map (·.2)) ∧ H3 = upd (upd H t (.frz od (.dT ks))) D (.lst ws), fun H3 hz => ⟨ks.length - (i + 1), by omega, rfl, hlt, hz⟩, fun x H3 hy => ?_⟩
    obtain ⟨rfl, kk, v, qa, hkv, rfl, hq⟩ := hy
    obtain ⟨d, hd⟩ := rk.key hkv
    have hlk := lkD_at hnd hd
    obtain ⟨w, d', g1, g2, g3⟩ : ∃ w d', valV ks kk = some w ∧ lkD kvs (tkD kk) = some d' ∧ Is X.K Hn w d' := by
      rcases rk.get kk with z | ⟨_, z⟩
      · exact z
      · rw [hlk] at z
        cases z
    obtain rfl : d = d' := by
      rw [hlk] at g2
      exact Option.some.inj g2
    refine ⟨?_, ?_⟩
    · exact wipe_eq (by rw [List.length_set, wipe_length]) fun j hj => by
        have hj' : j ≠ ik := fun e => hj (by rw [e]; exact List.mem_singleton.mpr rfl)
        rw [List.getElem?_set_ne (Ne.symm hj'), wipe_get hj]
    · unfold tYes
      refine ite_t rfl ?_
      refine ⟨.ref t, ?_, .ref qa, ?_, t, w, rfl, .inr ⟨ks, kk, qa, .inr ⟨od, ht⟩, rfl, hq, g1.symm⟩, ws, upd_same, ?_, ws ++ [w], ?_, upd_over⟩
      · rw [List.getElem?_set_ne (Ne.symm hne), wipe_get (by simpa using hne)]
        exact hv0
      · exact List.getElem?_set_self (by rw [wipe_length, hσ]; exact hik)
      · rw [rws.length, List.length_map, List.length_take, sizeLine_eq]
        omega
      · have e : (kvs.take (i + 1)).map (·.2) = (kvs.take i).map (·.2) ++ [d] := by
          rw [List.take_add_one, hd, List.map_append]
          rfl
        rw [e]
        exact rws.append (.cons g3 .nil)
  · have e : i = ks.length := by omega
    subst e
    refine .inl ⟨⟨ht, Nat.le_refl _⟩, ht, ?_⟩
    have eh : upd (upd (upd H t (.frz od (.dT ks))) D (.lst ws)) t (.dT ks) = upd H D (.lst ws) := by
      rw [upd_swap nDt, upd_over]
      congr 1
      funext c
      by_cases hc : c = t
      · rw [hc, upd_same, h1]
      · rw [upd_ne hc]
    rw [eh]
    rw [lk, List.take_length] at rws
    have hn := S.rep.nn hD'
    exact q _ _ M _ _ h (S.alloc hD') (same_upd hn) (.lst upd_same (rws.mono (same_upd hn)))
/-- cells at the end are forgotten -/
theorem je_forget {e : Expr} (h : JE X Γ M e (fun d M1 => ∃ M0 ex, M1 = M0 ++ ex ∧ M0.map (·.1) = M.map (·.1) ∧ Φ d M0) Ψ) : JE X Γ M e Φ Ψ := fun B Hn H σ S A Q q => by
  refine h B Hn H σ S A _ fun v d M1 Hn1 H1 p1 S1 e1 r1 => ?_
  obtain ⟨M0, ex, rfl, hm, p1⟩ := p1
  refine q v d M0 Hn1 H1 p1 ⟨S1.rep.part (fun p hp => List.mem_append_left _ hp) (by rw [hm]; exact S.rep.nd), S1.step, fun p hp => S1.loc p (List.mem_append_left _ hp), by rw [hm]; exact S.pre, S1.sl⟩ e1 r1
end
end DL
end

section
set_option Elab.async false
set_option linter.all false
set_option maxRecDepth 100000
set_option maxHeartbeats 4000000
/-! text.join(cell of texts). -/
namespace DL
open PySem PySem.Spec PyProof.Rows L2
theorem md_joinC {X : Cx} {M : Mem} {Φ : D → Mem → Prop} (j : Nat) {t : Addr} {a : Str} {ys : List Str} (hk : M[j]? = some (t, .lst (ys.map .str))) (hl : (ys.map (·.length)).sum + ys.length * a.length ≤ 1000000) (h : Φ (.str (Txt.join a ys)) M) : MetD X "str.join" (.str a) [.raw (.ref t)] M Φ := fun B Γ Hn H σ v vs Q S r rr q => by
  cases r
  obtain ⟨u, rfl, ru⟩ := rr.one
  cases ru
  obtain ⟨ws, h1, r1⟩ := (S.rep.cell _ (List.mem_of_getElem? hk)).2
  have e := strs_of r1
  subst e
  exact ⟨_, mt_join, a, t, ys, rfl, rfl, .inl (SqL.of h1), by omega, q _ _ _ _ _ h S (Same.refl _) (.str _)⟩
theorem opd_inC {X : Cx} {M : Mem} {Φ : D → Mem → Prop} (j : Nat) {t : Addr} {x : D} {ys : List D} (hk : M[j]? = some (t, .lst ys)) (hu : X.A.units + 65 < cLine) (hx : fit x = true) (hy : fit (.lst ys) = true) (h : Φ (.bl (ys.any fun z => eqd z x)) M) : OpD X (compareOp .In) x (.raw (.ref t)) M Φ := fun B Γ Hn H σ v u Q S rx ry q => by
  cases ry
  obtain ⟨p1, s1⟩ := Bool.and_eq_true_iff.mp hx
  obtain ⟨p2, s2⟩ := Bool.and_eq_true_iff.mp hy
  refine ⟨_, op_inD hu, py x, pyA ys, rx.dp S.rep.sub p1, S.rep.dpCell hk p2, s1, s2, ?_⟩
  have e : ((pyA ys).any fun z => PyData.eqv z (py x)) = (ys.any fun z => eqd z x) := by
    rw [pyA_map, List.any_map]
    rfl
  rw [e]
  exact q _ _ _ _ _ h S (Same.refl _) (.bl _)
end DL
end

section
set_option Elab.async false
set_option linter.all false
set_option maxRecDepth 100000
set_option maxHeartbeats 4000000
/-! A def that hands back a pair, its second a list of its own. -/
namespace DL
open PySem PySem.Spec PyProof.Rows L2
/-- what a def hands back: data, or a pair of data and a list of its own -/
def Rp (Φ : D → Mem → Prop) (n : Nat) (d : D) (M' : Mem) : Prop := Φ d (M'.take n) ∨ ∃ (k : Nat) (t : Addr) (xs : List D) (x : D), n ≤ k ∧ d = .tup [x, .raw (.ref t)] ∧ M'[k]? = some (t, .lst xs) ∧ Φ (.tup [x, .lst xs]) (M'.take n)
/-- as fn_d, what is handed back may be a list of the def's own -/
theorem fn_dcp {Pg : Program} {w : World} {K : PySem.W.Frag} {mg : Str → Option Value} {base : Heap} {x qual : Str} {st : Stmt} {f : Addr} {fd : FuncData} {N ps : List Str} {k : Nat} {spec : Spec} (F : Fun K x qual st f fd) (Sc : FnScope N ps (defScope st))
    (len : ∀ ds M Φ Ψ, spec ds M Φ Ψ → ds.length = ps.length)
    (body : ∀ (cdv : Value) (A : Around) (outer : List Env) (s : Shared) (H : Hp) (E : XK), Room k (A.deeper (envOfC qual (defScope st) s.heap.objs.size f cdv)) → ∀ ds M Φ Ψ, spec ds M Φ Ψ →
      JSs (cxOf (L2.CX Pg w) Pg w K mg base N qual (defScope st) f cdv A outer s H E) (ds.map some ++ List.replicate (N.length - ds.length) none) M (defBody st)
        { nx := fun _ M' => Φ .non (M'.take M.length), rt := fun d M' => Rp Φ M.length d M', ex := fun x _ M' => Ψ x (M'.take M.length) }) : FnOk Pg w K mg base (L2.CX Pg w) (k + 1) f fd ps (spD K spec) := by
  refine F.okX Sc (fun vs H Q E h => ?_) (fun cdv A outer s H vs Q E hr h => ?_)
  · obtain ⟨ds, M, Hn, Φ, Ψ, r, _, hsp, _⟩ := h
    rw [r.length]
    exact len _ _ _ _ hsp
  · obtain ⟨ds, M, Hn, Φ, Ψ, r, R, hsp, q, qx⟩ := h
    refine ⟨_, pss_run, ?_⟩
    have pre : M.map (·.1) <+: M.map (·.1) := List.prefix_refl _
    have S : SR K ⟨Hn, H, M.map (·.1)⟩ M (ds.map some ++ List.replicate (N.length - ds.length) none) Hn H (L2.start N vs) := by
      refine ⟨R, Step.refl, fun p hp => .inl (List.mem_map_of_mem hp), pre, fun i d hi => ?_⟩
      unfold L2.start
      by_cases hl : i < ds.length
      · rw [List.getElem?_append_left (by simpa using hl), List.getElem?_map] at hi
        cases hd : ds[i]? with
        | none => rw [hd] at hi; cases hi
        | some d' =>
          rw [hd] at hi
          cases hi
          obtain ⟨v, hv, rv⟩ := r.get hd
          exact ⟨v, by rw [List.getElem?_append_left (by rw [List.length_map, r.length]; exact hl), List.getElem?_map, hv]; rfl, rv⟩
      · rw [List.getElem?_append_right (by simpa using hl), List.getElem?_replicate] at hi
        split at hi <;> cases hi
    -- what a state behind gives the caller
    have back : ∀ {M' : Mem} {Γ' : Sl} {Hn' H' : Hp} {σ' : L2.St}, SR K ⟨Hn, H, M.map (·.1)⟩ M' Γ' Hn' H' σ' → Rep K (M'.take M.length) Hn' H' ∧ (M'.take M.length).map (·.1) = M.map (·.1) := by
      intro M' Γ' Hn' H' σ' S'
      refine ⟨S'.rep.part (fun p hp => List.mem_of_mem_take hp) ?_, ?_⟩
      · rw [List.map_take]
        exact S'.rep.nd.sublist (List.take_sublist _ _)
      · obtain ⟨z, hz⟩ := S'.pre
        rw [List.map_take, ← hz]
        have hz' : M.map (·.1) ++ z = M'.map (·.1) := hz
        rw [List.take_append_of_le_length (by simp), List.take_of_length_le (by simp)]
    refine body cdv A outer s H E hr ds M Φ Ψ hsp (⟨Hn, H, M.map fun p : Addr × Cell => p.1⟩ : Bas) Hn H (L2.start N vs) S _ ⟨fun Γ' M' Hn' H' σ' p S' => ?_, fun Γ' M' Hn' H' σ' p => p.elim, fun Γ' M' Hn' H' σ' p => p.elim, fun v d M' Hn' H' p S' rv => ?_, fun x Γ' M' Hn' H' σ' cls dd p S' ri => ?_⟩
    · obtain ⟨b1, b2⟩ := back S'
      exact q .non .non _ Hn' H' p b1 S'.step b2 .non
    · rcases p with p | ⟨k, t, xs, x, hk, rfl, hM, p⟩
      · obtain ⟨b1, b2⟩ := back S'
        exact q v d _ Hn' H' p b1 S'.step b2 rv
      · obtain ⟨ws, h1, r⟩ := (S'.rep.cell _ (List.mem_of_getElem? hM)).2
        have hn : Hn' t = none := (S'.rep.cell _ (List.mem_of_getElem? hM)).1
        have S2 := S'.toData (o := .lst ws) hM h1 (by simpa using hk)
        obtain ⟨b1, b2⟩ := back S2
        have e : (M'.eraseIdx k).take M.length = M'.take M.length := by
          refine List.ext_getElem? fun j => ?_
          rw [List.getElem?_take, List.getElem?_take]
          split
          · rw [List.getElem?_eraseIdx, if_pos (by omega)]
          · rfl
        rw [e] at b1 b2
        have sn := same_upd (o := .lst ws) hn
        cases rv with
        | tup hta ra =>
          cases ra with
          | cons rx rb =>
            cases rb with
            | cons r2 r3 =>
              cases r2
              cases r3
              exact q _ (.tup [x, .lst xs]) _ _ H' p b1 S2.step b2 (.tup (same_ta sn hta) (.cons (rx.mono sn) (.cons (.lst upd_same (r.mono sn)) .nil)))
    · obtain ⟨b1, b2⟩ := back S'
      exact air_of (W := fun cls d _ H => E cls d H) (takes_of rfl rfl rfl rfl) (qx x _ Hn' H' cls dd p b1 S'.step b2 ri)
section
variable {X : Cx} {Γ : Sl} {M : Mem} {Φ : D → Mem → Prop} {Ψ : XP} {a b : Expr} {pos : Pos}
/-- x[i], x a list cell -/
theorem je_ixC (k : Nat) (h : JE X Γ M a (fun x M1 => JE X Γ M1 b (fun y M2 => ∃ t xs i d, x = .raw (.ref t) ∧ M2[k]? = some (t, .lst xs) ∧ y = .int i ∧ atI xs i = some d ∧ Φ d M2) Ψ) Ψ) (hs : PlainIx b := by exact fun _ _ => rfl) : JE X Γ M (.Subscript a b pos) Φ Ψ := fun B Hn H σ S A Q q => by
  refine run_pe (pe_ix ix_list pe_run pe_run hs) ?_
  refine h B Hn H σ S A _ fun v d M1 Hn1 H1 p S1 e1 r1 => ?_
  refine p B Hn1 H1 σ S1 (A.mono e1) _ fun u d2 M2 Hn2 H2 p2 S2 e2 r2 => ?_
  obtain ⟨t, xs, i, z, rfl, hk, rfl, hz, p2⟩ := p2
  cases r2
  cases r1
  obtain ⟨ws, h1, r1⟩ := (S2.rep.cell _ (List.mem_of_getElem? hk)).2
  have : ∃ v, atI ws i = some v ∧ Is X.K Hn2 v z := by
    unfold atI at hz ⊢
    rw [r1.length]
    cases hx : ixN xs.length i with
    | none => rw [hx] at hz; cases hz
    | some j =>
      rw [hx] at hz
      exact r1.get hz
  obtain ⟨v, hv, rv⟩ := this
  exact ⟨t, ws, i, v, rfl, rfl, SqL.of h1, hv, q _ _ _ _ _ p2 S2 (e1.trans e2) rv⟩
end
end DL
end

section
set_option Elab.async false
set_option linter.all false
set_option maxRecDepth 100000
set_option maxHeartbeats 4000000
/-! xs[i] = e, xs a list cell. -/
namespace DL
open PySem PySem.Spec PyProof.Rows L2
section
variable {X : Cx} {Γ : Sl} {M : Mem} {P : Post} {e o i : Expr} {pos pos' : Pos}
theorem js_lput (k : Nat) (h : JE X Γ M e (fun d M1 => JE X Γ M1 o (fun x M2 => JE X Γ M2 i (fun y M3 => ∃ t xs n j, x = .raw (.ref t) ∧ M3[k]? = some (t, .lst xs) ∧ y = .int n ∧ ixN xs.length n = some j ∧ P.nx Γ (M3.set k (t, .lst (xs.set j d)))) (fun x M1 => P.ex x Γ M1)) (fun x M1 => P.ex x Γ M1)) (fun x M1 => P.ex x Γ M1))
    (hs : swapsWithSole [.Subscript o i pos'] e pos.line X.env = pure false := by rfl) (hw : swappedStores [.Subscript o i pos'] e X.env = pure none := by rfl) (h1 : (assignEach [.Subscript o i pos'] X.env).map (·.2) = [assign (.Subscript o i pos') X.env] := by rfl)
    (ha : ∀ v, assign (.Subscript o i pos') X.env v = (do
      let ov ← holding [v] (eval o X.env)
      let iv ← holding [v, ov] (eval i X.env)
      standAt pos'
      holding [v, ov, iv] (setItem ov iv v)
      release [v, ov, iv] []) := by intro _; rfl) : JS X Γ M (.Assign [.Subscript o i pos'] e pos) P := fun B Hn H σ S De ok => by
  refine run_ps (ps_asg pe_run (pg_sub pe_run pe_run set_list ha) hs hw h1) ?_
  refine h B Hn H σ S ok.air _ fun v d M1 Hn1 H1 p1 S1 e1 r1 => ?_
  refine p1 B Hn1 H1 σ S1 ok.air _ fun w x M2 Hn2 H2 p2 S2 e2 r2 => ?_
  refine p2 B Hn2 H2 σ S2 ok.air _ fun u y M3 Hn3 H3 p3 S3 e3 r3 => ?_
  obtain ⟨t, xs, n, j, rfl, hk, rfl, hj, p3⟩ := p3
  cases r2
  cases r3
  obtain ⟨ws, hw1, rw1⟩ := (S3.rep.cell _ (List.mem_of_getElem? hk)).2
  refine ⟨t, ws, n, j, rfl, rfl, hw1, by rw [rw1.length]; exact hj, ?_⟩
  exact ok.nx _ _ _ _ _ p3 (S3.put hk ⟨_, upd_same, IsA.set ((r1.mono e2).mono e3) j rw1⟩)
theorem js_par3 (i j l : Nat) {x y z : Str} {a b c : Expr} {px py pz pt : Pos} {kt k2 pt2} (h : JA X Γ M [a, b, c] (fun ds M1 => ∃ d1 d2 d3, ds = [d1, d2, d3] ∧ P.nx (((Γ.set i (some d1)).set j (some d2)).set l (some d3)) M1) (fun x M1 => P.ex x Γ M1)) (hN : X.N.Nodup) (hc : X.calm = true := by rfl) (hi : X.N[i]? = some x := by rfl) (hj : X.N[j]? = some y := by rfl) (hl : X.N[l]? = some z := by rfl) (hij : i ≠ j := by decide) (hil : i ≠ l := by decide) (hjl : j ≠ l := by decide)
    (hx : X.env.scope.names.lookup x = some .local := by rfl) (hy : X.env.scope.names.lookup y = some .local := by rfl) (hz : X.env.scope.names.lookup z = some .local := by rfl) (hw : swappedStores [.Tuple [.Name x px, .Name y py, .Name z pz] kt pt] (.Tuple [a, b, c] k2 pt2) X.env = pure (some [x, y, z]) := by rfl)
    (hs : swapsWithSole [.Tuple [.Name x px, .Name y py, .Name z pz] kt pt] (.Tuple [a, b, c] k2 pt2) pos.line X.env = pure false := by rfl) : JS X Γ M (.Assign [.Tuple [.Name x px, .Name y py, .Name z pz] kt pt] (.Tuple [a, b, c] k2 pt2) pos) P := fun B Hn H σ S De ok pins s I => by
  refine (ps_par3 hc hN hi hj hl hij hil hjl hx hy hz pa_run hw hs).run pins s σ H De I ?_
  refine h B Hn H σ S ok.air _ fun vs ds M1 Hn1 H1 p S1 e1 r1 => ?_
  obtain ⟨d1, d2, d3, rfl, p⟩ := p
  cases r1 with
  | cons r1 q1 =>
    obtain ⟨v2, v3, rfl, r2, r3⟩ := q1.two
    refine ⟨_, v2, v3, rfl, ok.nx _ _ _ _ _ p (((S1.set (len_of I hi) r1).set ?_ r2).set ?_ r3)⟩
    · rw [List.length_set]
      exact len_of I hj
    · rw [List.length_set, List.length_set]
      exact len_of I hl
end
end DL
end

section
set_option Elab.async false
set_option linter.all false
set_option maxRecDepth 100000
set_option maxHeartbeats 4000000
/-! cell + list. -/
namespace DL
open PySem PySem.Spec PyProof.Rows L2
section
variable {X : Cx} {M : Mem} {Φ : D → Mem → Prop}
theorem opd_addCL (k : Nat) {t : Addr} {xs ys : List D} (hk : M[k]? = some (t, .lst xs)) (hl : xs.length + ys.length ≤ 1000000) (h : Φ (.lst (xs ++ ys)) M) : OpD X (binaryOp .Add) (.raw (.ref t)) (.lst ys) M Φ := fun B Γ Hn H σ v u Q S rx ry q => by
  cases rx
  cases ry with
  | lst h2 r2 =>
    obtain ⟨ws, h1, r1⟩ := (S.rep.cell _ (List.mem_of_getElem? hk)).2
    refine ⟨_, op_cat, _, _, _, _, rfl, rfl, h1, S.rep.sub _ _ h2, by rw [r1.length, r2.length, sizeLine_eq]; omega, fun p hp => ?_⟩
    have hn := S.rep.nn hp
    exact q _ _ _ _ _ h (S.alloc hp) (same_upd hn) (.lst upd_same ((r1.append r2).mono (same_upd hn)))
end
end DL
end

section
set_option Elab.async false
set_option linter.all false
set_option maxRecDepth 100000
set_option maxHeartbeats 4000000
/-! Plain facts and promises about the program's and the laws' common defs. -/
set_option hygiene false
namespace DN
open PySem PySem.Spec PyProof.Rows L2 DL TL
/-- what the values are that the checks are asked about -/
def okv (d : D) : Prop := (∃ n, tyN d = some n) ∧ ∀ z, d = .str z → z.length ≤ 1000000
noncomputable def isName (d : D) : Bool := match d with
  | .str z => decide (1 ≤ (z.length : Int)) && decide ((z.length : Int) ≤ 12) && Txt.isascii z && Txt.isalnum z && Txt.islower z && Txt.isalpha ⟨#[z.cps.toList.headD 0]⟩
  | _ => false
theorem at_head (z : Str) (h : 1 ≤ (z.length : Int)) : atI z.cps.toList 0 = some (z.cps.toList.headD 0) := by
  have h' : 1 ≤ z.cps.toList.length := by
    have : z.length = z.cps.toList.length := by simp [Str.length]
    omega
  cases q : z.cps.toList with
  | nil =>
    rw [q] at h'
    cases h'
  | cons c r => simp [atI, ixN]
section
end
/-- the pen's dict -/
def penD (ns : List Int) (at' dg ct fo : Int) : List (D × D) := [(.str "cells", .lst (ns.map .int)), (.str "at", .int at'), (.str "digits", .int dg), (.str "count", .int ct), (.str "fold", .int fo)]
def PenIs (n : Nat) (c : Cell) : Prop := ∃ (ns : List Int) (at' dg ct fo : Int), c = .dK (penD ns at' dg ct fo) ∧ 0 ≤ at' ∧ 0 ≤ dg ∧ 0 ≤ ct ∧ 0 ≤ fo ∧ fo < 3000000000 ∧ ct + n ≤ 1000000000000
def penK (c : Addr) (fo : Int) : List (Key × V) := [(.inr "cells", .ref c), (.inr "at", .int 0), (.inr "digits", .int 0), (.inr "count", .int 0), (.inr "fold", .int fo)]
def spPen (K : PySem.W.Frag) : Sp := fun vs H Q _ => ∃ (a : Addr) (ns : List Int), vs = [.ref a] ∧ SqL K H a (ns.map V.int) ∧ ∀ (H' : Hp) (p c : Addr) (fo : Int), 0 ≤ fo → fo < 3000000000 → H p = none → H c = none → Same H H' → H' p = some (.dK (penK c fo)) → H' c = some (.lst (ns.map V.int)) → Q (.ref p) H'
theorem strNe {a b : Str} (h : a ≠ b) : ¬ (D.str a = D.str b) := fun e => h (by cases e; rfl)
section
variable (ns : List Int) (at' dg ct fo : Int) (d : D)
theorem lk_cells : lkD (penD ns at' dg ct fo) (.str "cells") = some (.lst (ns.map .int)) := by
  unfold lkD penD
  rw [List.find?_cons_of_pos (by simp)]
  rfl
theorem lk_at : lkD (penD ns at' dg ct fo) (.str "at") = some (.int at') := by
  unfold lkD penD
  rw [List.find?_cons_of_neg (by simpa using by decide), List.find?_cons_of_pos (by simp)]
  rfl
theorem lk_digits : lkD (penD ns at' dg ct fo) (.str "digits") = some (.int dg) := by
  unfold lkD penD
  rw [List.find?_cons_of_neg (by simpa using by decide), List.find?_cons_of_neg (by simpa using by decide), List.find?_cons_of_pos (by simp)]
  rfl
theorem lk_count : lkD (penD ns at' dg ct fo) (.str "count") = some (.int ct) := by
  unfold lkD penD
  rw [List.find?_cons_of_neg (by simpa using by decide), List.find?_cons_of_neg (by simpa using by decide), List.find?_cons_of_neg (by simpa using by decide), List.find?_cons_of_pos (by simp)]
  rfl
theorem lk_fold : lkD (penD ns at' dg ct fo) (.str "fold") = some (.int fo) := by
  unfold lkD penD
  rw [List.find?_cons_of_neg (by simpa using by decide), List.find?_cons_of_neg (by simpa using by decide), List.find?_cons_of_neg (by simpa using by decide), List.find?_cons_of_neg (by simpa using by decide), List.find?_cons_of_pos (by simp)]
  rfl
theorem pt_at : ptD (penD ns at' dg ct fo) (.str "at") (.int x) = penD ns x dg ct fo := by
  unfold ptD
  rw [if_pos (by simp [penD])]
  simp only [penD, List.map_cons, List.map_nil]
  rw [if_neg (strNe (by decide)), if_pos True.intro, if_neg (strNe (by decide)), if_neg (strNe (by decide)), if_neg (strNe (by decide))]
theorem pt_digits : ptD (penD ns at' dg ct fo) (.str "digits") (.int x) = penD ns at' x ct fo := by
  unfold ptD
  rw [if_pos (by simp [penD])]
  simp only [penD, List.map_cons, List.map_nil]
  rw [if_neg (strNe (by decide)), if_neg (strNe (by decide)), if_pos True.intro, if_neg (strNe (by decide)), if_neg (strNe (by decide))]
theorem pt_count : ptD (penD ns at' dg ct fo) (.str "count") (.int x) = penD ns at' dg x fo := by
  unfold ptD
  rw [if_pos (by simp [penD])]
  simp only [penD, List.map_cons, List.map_nil]
  rw [if_neg (strNe (by decide)), if_neg (strNe (by decide)), if_neg (strNe (by decide)), if_pos True.intro, if_neg (strNe (by decide))]
theorem pt_fold : ptD (penD ns at' dg ct fo) (.str "fold") (.int x) = penD ns at' dg ct x := by
  unfold ptD
  rw [if_pos (by simp [penD])]
  simp only [penD, List.map_cons, List.map_nil]
  rw [if_neg (strNe (by decide)), if_neg (strNe (by decide)), if_neg (strNe (by decide)), if_neg (strNe (by decide)), if_pos True.intro]
end
section
end
section
variable {X : Cx} {Γ : Sl} {M : Mem} {Φ : D → Mem → Prop} {Ψ : XP} {p : Addr} {ns : List Int} {at' dg ct fo : Int}
theorem je_pen {k : Str} {d : D} {p1 p2 pos : Pos} {j} (hl : lkD (penD ns at' dg ct fo) (.str k) = some d) (h : Φ d M) (hu : X.A.units + 1 < cLine) (hΓ : Γ[0]? = some (some (.raw (.ref p)))) (hM : M[0]? = some (p, .dK (penD ns at' dg ct fo))) (hN : X.N[0]? = some ("pen" : Str) := by rfl) (hv : Vis X.env.scope "pen" := by first | exact Or.inl rfl | exact Or.inr (Or.inl rfl) | exact Or.inr (Or.inr rfl)) :
    JE X Γ M (.Subscript (.Name "pen" p1) (.Constant (.str k) j p2) pos) Φ Ψ := je_dget hu (je_var 0 hΓ (je_str ⟨d, .inl ⟨_, .inr k, .inr ⟨0, p, rfl, hM⟩, rfl, hl⟩, h⟩) hN hv)
theorem js_pen {k : Str} {e : Expr} {P : Post} {p1 p2 p3 pos : Pos} {j} (hu : X.A.units + 1 < cLine) (hΓ : Γ[0]? = some (some (.raw (.ref p)))) (h : JE X Γ M e (fun d M1 => M1[0]? = some (p, .dK (penD ns at' dg ct fo)) ∧ P.nx Γ (M1.set 0 (p, .dK (ptD (penD ns at' dg ct fo) (.str k) d)))) (fun x M1 => P.ex x Γ M1)) (hN : X.N[0]? = some ("pen" : Str) := by rfl) (hv : Vis X.env.scope "pen" := by first | exact Or.inl rfl | exact Or.inr (Or.inl rfl) | exact Or.inr (Or.inr rfl))
    (hs : swapsWith e (some (.Subscript (.Name "pen" p1) (.Constant (.str k) j p2) p3)) pos.line X.env = pure false := by rfl) : JS X Γ M (.Assign [.Subscript (.Name "pen" p1) (.Constant (.str k) j p2) p3] e pos) P :=
  js_dputK 0 hu (h.imp fun d M1 ⟨h1, h2⟩ => je_var 0 hΓ (je_str ⟨p, _, .inr k, rfl, h1, rfl, by show 5 < 1000000; decide, h2⟩) hN hv) hs
end
def spDraw : DL.Spec := fun ds M Φ _ => ∃ p m n c, ds = [.raw (.ref p), .int m] ∧ 0 < m ∧ m < 1073741824 ∧ M = [(p, c)] ∧ PenIs (n + 1) c ∧ ∀ d c', 0 ≤ d → d < m → PenIs n c' → Φ (.int d) [(p, c')]
section
end
theorem PenIs.less {n m : Nat} {c : Cell} (h : PenIs n c) (hm : m ≤ n) : PenIs m c := by
  obtain ⟨ns, a, d, ct, fo, e, h1, h2, h3, h4, h5, h6⟩ := h
  exact ⟨ns, a, d, ct, fo, e, h1, h2, h3, h4, h5, by omega⟩
theorem use_draw {M : Mem} {Φ : D → Mem → Prop} {Ψ : XP} (k : Nat) {p : Addr} {c : Cell} {n : Nat} {m : Int} (hk : M[k]? = some (p, c)) (hc : PenIs (n + 1) c) (m0 : 0 < m) (m1 : m < 1073741824) (h : ∀ d c', 0 ≤ d → d < m → PenIs n c' → Φ (.int d) (M.set k (p, c'))) : Use spDraw [.raw (.ref p), .int m] M Φ Ψ :=
  .one k p c hk ⟨p, m, n, c, rfl, m0, m1, rfl, hc, fun d c' h0 h1 hc' c'' e => by cases e; exact h d c' h0 h1 hc'⟩
def spPick : DL.Spec := fun ds M Φ _ => ∃ p xs n c, ds = [.raw (.ref p), .lst xs] ∧ xs ≠ [] ∧ xs.length ≤ 1000000 ∧ M = [(p, c)] ∧ PenIs (n + 1) c ∧ ∀ x c', x ∈ xs → PenIs n c' → Φ x [(p, c')]
theorem use_pick {M : Mem} {Φ : D → Mem → Prop} {Ψ : XP} (k : Nat) {p : Addr} {c : Cell} {n : Nat} {xs : List D} (hk : M[k]? = some (p, c)) (hc : PenIs (n + 1) c) (h0 : xs ≠ []) (h1 : xs.length ≤ 1000000) (h : ∀ x c', x ∈ xs → PenIs n c' → Φ x (M.set k (p, c'))) : Use spPick [.raw (.ref p), .lst xs] M Φ Ψ :=
  .one k p c hk ⟨p, xs, n, c, rfl, h0, h1, rfl, hc, fun x c' hx hc' c'' e => by cases e; exact h x c' hx hc'⟩
def spShuf : DL.Spec := fun ds M Φ _ => ∃ p xs n c, ds = [.raw (.ref p), .lst xs] ∧ xs.length ≤ 100000 ∧ M = [(p, c)] ∧ PenIs (n + xs.length) c ∧ ∀ ys c', ys.Perm xs → PenIs n c' → Φ (.lst ys) [(p, c')]
theorem use_shuf {M : Mem} {Φ : D → Mem → Prop} {Ψ : XP} (k : Nat) {p : Addr} {c : Cell} {n : Nat} {xs : List D} (hk : M[k]? = some (p, c)) (hc : PenIs (n + xs.length) c) (h1 : xs.length ≤ 100000) (h : ∀ ys c', ys.Perm xs → PenIs n c' → Φ (.lst ys) (M.set k (p, c'))) : Use spShuf [.raw (.ref p), .lst xs] M Φ Ψ :=
  .one k p c hk ⟨p, xs, n, c, rfl, h1, rfl, hc, fun x c' hx hc' c'' e => by cases e; exact h x c' hx hc'⟩
section
theorem at_of {xs : List D} {d : Int} (h0 : 0 ≤ d) (h1 : d < xs.length) : ∃ x, x ∈ xs ∧ atI xs d = some x ∧ xs[d.toNat]? = some x := by
  have hlt : d.toNat < xs.length := by omega
  obtain ⟨x, hx⟩ : ∃ x, xs[d.toNat]? = some x := ⟨_, List.getElem?_eq_getElem hlt⟩
  refine ⟨x, List.mem_of_getElem? hx, ?_, hx⟩
  have e : d = ((d.toNat : Nat) : Int) := by omega
  rw [e]
  exact atI_nat hx
theorem erase_perm {α : Type} {x : α} : ∀ {xs : List α} {j : Nat}, xs[j]? = some x → ([x] ++ xs.eraseIdx j).Perm xs
  | [], _, h => by simp at h
  | y :: xs, 0, h => by
    cases h
    exact List.Perm.refl _
  | y :: xs, j + 1, h => by
    have ih := erase_perm (xs := xs) (j := j) h
    exact (List.Perm.swap y x (xs.eraseIdx j)).trans (List.Perm.cons y ih)
theorem pop_perm {α : Type} {xs ys : List α} {j : Nat} {x : α} (h : xs[j]? = some x) : ((ys ++ [x]) ++ xs.eraseIdx j).Perm (ys ++ xs) := by
  rw [List.append_assoc]
  exact List.Perm.append_left ys (erase_perm h)
end
def low (w : List Nat) : Prop := ∀ c ∈ w, 97 ≤ c ∧ c ≤ 122
def NameOf (i : Nat) (z : Str) : Prop := ∃ (w : List Nat) (pl : Nat), 1 ≤ pl ∧ pl ≤ w.length ∧ w.length ≤ 8 ∧ low w ∧ z = ⟨(w.take pl ++ (48 + i) :: w.drop pl).toArray⟩
def alph : Str := "abcdefghijklmnopqrstuvwxyz"
theorem alph_list : alph.cps.toList = (List.range 26).map (97 + ·) := by decide +kernel
theorem alph_at {d : Int} (h0 : 0 ≤ d) (h1 : d < 26) : ∃ c, 97 ≤ c ∧ c ≤ 122 ∧ atI alph.cps.toList d = some c := by
  refine ⟨97 + d.toNat, by omega, by omega, ?_⟩
  have e : d = ((d.toNat : Nat) : Int) := by omega
  rw [e]
  refine atI_nat ?_
  rw [alph_list, List.getElem?_map, List.getElem?_range (by omega)]
  rfl
theorem digit_str {i : Int} (h0 : 0 ≤ i) (h1 : i < 10) : ((toString i : String) : Str) = ⟨#[48 + i.toNat]⟩ := by
  have h : i = 0 ∨ i = 1 ∨ i = 2 ∨ i = 3 ∨ i = 4 ∨ i = 5 ∨ i = 6 ∨ i = 7 ∨ i = 8 ∨ i = 9 := by omega
  rcases h with rfl | rfl | rfl | rfl | rfl | rfl | rfl | rfl | rfl | rfl <;> decide +kernel
theorem str_app (a b : List Nat) : (⟨a.toArray⟩ : Str) ++ ⟨b.toArray⟩ = ⟨(a ++ b).toArray⟩ := by
  show Str.mk (a.toArray ++ b.toArray) = _
  rw [List.append_toArray]
theorem str_len (a : List Nat) : (⟨a.toArray⟩ : Str).length = a.length := by simp [Str.length]
theorem cut_take (w : List Nat) (pl : Nat) (h : pl ≤ w.length) : cutS ⟨w.toArray⟩ none (some (pl : Int)) = ⟨(w.take pl).toArray⟩ := by
  unfold cutS
  rw [HT.sIx_none, HT.sIx_nat, str_len, Nat.min_eq_left h]
  simp
theorem cut_drop (w : List Nat) (pl : Nat) (h : pl ≤ w.length) : cutS ⟨w.toArray⟩ (some (pl : Int)) none = ⟨(w.drop pl).toArray⟩ := by
  unfold cutS
  rw [HT.sIx_none, HT.sIx_nat, str_len, Nat.min_eq_left h]
  congr 2
  exact List.take_of_length_le (by rw [List.length_drop]; exact Nat.le_refl _)
def spName' : DL.Spec := fun ds M Φ _ => ∃ p i n c, ds = [.raw (.ref p), .int (i : Nat)] ∧ i < 10 ∧ M = [(p, c)] ∧ PenIs (n + 10) c ∧ ∀ z c', NameOf i z → PenIs n c' → Φ (.str z) [(p, c')]
theorem use_name' {M : Mem} {Φ : D → Mem → Prop} {Ψ : XP} (k : Nat) {p : Addr} {c : Cell} {n i : Nat} (hk : M[k]? = some (p, c)) (hc : PenIs (n + 10) c) (hi : i < 10) (h : ∀ z c', NameOf i z → PenIs n c' → Φ (.str z) (M.set k (p, c'))) : Use spName' [.raw (.ref p), .int (i : Nat)] M Φ Ψ :=
  .one k p c hk ⟨p, i, n, c, rfl, hi, rfl, hc, fun x c' hx hc' c'' e => by cases e; exact h x c' hx hc'⟩
def spNames : DL.Spec := fun ds M Φ _ => ∃ p m n c, ds = [.raw (.ref p), .int (m : Nat)] ∧ m ≤ 10 ∧ M = [(p, c)] ∧ PenIs (n + 11 * m) c ∧ ∀ ys c' (zs : List Str), zs.length = m → (∀ j z, zs[j]? = some z → NameOf j z) → ys.Perm (zs.map D.str) → PenIs n c' → Φ (.lst ys) [(p, c')]
theorem use_names {M : Mem} {Φ : D → Mem → Prop} {Ψ : XP} (k : Nat) {p : Addr} {c : Cell} {n m : Nat} (hk : M[k]? = some (p, c)) (hc : PenIs (n + 11 * m) c) (hm : m ≤ 10) (h : ∀ ys c' (zs : List Str), zs.length = m → (∀ j z, zs[j]? = some z → NameOf j z) → ys.Perm (zs.map D.str) → PenIs n c' → Φ (.lst ys) (M.set k (p, c'))) : Use spNames [.raw (.ref p), .int (m : Nat)] M Φ Ψ :=
  .one k p c hk ⟨p, m, n, c, rfl, hm, rfl, hc, fun ys c' zs h1 h2 h3 hc' c'' e => by cases e; exact h ys c' zs h1 h2 h3 hc'⟩
section
end
section
end
noncomputable def isWord : D → Bool
  | .tup xs => xs.all isName
  | _ => false
def okw (d : D) : Prop := (∃ n, tyN d = some n) ∧ ∀ xs, d = .tup xs → xs.length ≤ 1000 ∧ ∀ x ∈ xs, okv x
noncomputable def spName : DL.Spec := DL.pureS (fun ds => ∃ d, ds = [d] ∧ okv d) fun ds => .bl (isName (ds.headD .non))
noncomputable def spIsWord : DL.Spec := DL.pureS (fun ds => ∃ d, ds = [d] ∧ okw d) fun ds => .bl (isWord (ds.headD .non))
theorem use_name {M : Mem} {Φ : D → Mem → Prop} {Ψ : XP} {d : D} (h : okv d) (k : Φ (.bl (isName d)) M) : Use spName [d] M Φ Ψ := .none ⟨rfl, ⟨d, rfl, h⟩, k⟩
section
section
end
end
theorem canLay_str : ∀ zs : List Str, (∀ z ∈ zs, PyData.strOk z = true) → PyData.canLayAll0 (pyA (zs.map D.str)) = true
  | [], _ => rfl
  | z :: zs, h => by
    show (PyData.canLay0 (.str z) && PyData.canLayAll0 (pyA (zs.map D.str))) = true
    rw [canLay_str zs fun y hy => h y (List.mem_cons_of_mem _ hy)]
    have q : PyData.canLay0 (.str z) = true := h z List.mem_cons_self
    rw [q]
    rfl
theorem depth_str : ∀ zs : List Str, PyData.depthAll (pyA (zs.map D.str)) = 0
  | [] => rfl
  | z :: zs => by
    show max (PyData.depth (.str z)) (PyData.depthAll (pyA (zs.map D.str))) = 0
    rw [depth_str zs]
    rfl
theorem plain_str : ∀ zs : List Str, plainA (zs.map D.str) = true
  | [] => rfl
  | z :: zs => by
    show (true && plainA (zs.map D.str)) = true
    rw [plain_str zs]
    rfl
theorem fit_strs {zs : List Str} (h : ∀ z ∈ zs, PyData.strOk z = true) : fit (.tup (zs.map D.str)) = true := by
  show (plainA (zs.map D.str) && (PyData.canLayAll0 (pyA (zs.map D.str)) && decide (PyData.depthAll (pyA (zs.map D.str)) + 1 ≤ 64))) = true
  rw [plain_str, canLay_str zs h, depth_str]
  rfl
theorem fit_int (i : Int) : fit (.int i) = true := rfl
theorem fit_str {z : Str} (h : PyData.strOk z = true) : fit (.str z) = true := by
  show (true && (PyData.strOk z && decide (0 ≤ 64))) = true
  rw [h]
  rfl
def placeD (zs : List Str) : D := .tup [.int zs.length, .tup (zs.map D.str)]
def ltw (a b : List Str) : Bool := ltn 2 (placeD a) (placeD b)
theorem cm_strs {a b : List Str} (ha : ∀ z ∈ a, PyData.strOk z = true) (hb : ∀ z ∈ b, PyData.strOk z = true) : cm 1 (.tup (a.map D.str)) (.tup (b.map D.str)) = true := by
  simp only [cm, List.all_eq_true, List.mem_range, Bool.and_eq_true]
  intro j hj
  rw [List.length_map, List.length_map] at hj
  have h1 : j < a.length := by omega
  have h2 : j < b.length := by omega
  have e1 : (a.map D.str).getD j .non = .str a[j] := by simp [List.getD_eq_getElem?_getD, h1]
  have e2 : (b.map D.str).getD j .non = .str b[j] := by simp [List.getD_eq_getElem?_getD, h2]
  rw [e1, e2]
  exact ⟨⟨fit_str (ha _ (List.getElem_mem h1)), fit_str (hb _ (List.getElem_mem h2))⟩, rfl⟩
theorem cm_place {a b : List Str} (ha : ∀ z ∈ a, PyData.strOk z = true) (hb : ∀ z ∈ b, PyData.strOk z = true) : cm 2 (placeD a) (placeD b) = true := by
  unfold placeD
  rw [cm]
  simp only [List.all_eq_true, List.mem_range, Bool.and_eq_true]
  intro j hj
  have hj : j = 0 ∨ j = 1 := by
    simp at hj
    omega
  rcases hj with rfl | rfl
  · exact ⟨⟨fit_int _, fit_int _⟩, rfl⟩
  · exact ⟨⟨fit_strs ha, fit_strs hb⟩, cm_strs ha hb⟩
def okS (d : D) (zs : List Str) : Prop := (d = .tup (zs.map D.str) ∨ d = .lst (zs.map D.str)) ∧ zs.length ≤ 1000 ∧ ∀ z ∈ zs, PyData.strOk z = true
def spPlace : DL.Spec := fun ds M Φ _ => ∃ d zs, ds = [d] ∧ M = [] ∧ okS d zs ∧ Φ (placeD zs) []
def spLower : DL.Spec := fun ds M Φ _ => ∃ d zs e ws, ds = [d, e] ∧ M = [] ∧ okS d zs ∧ okS e ws ∧ Φ (.bl (ltw zs ws)) []
section
section
end
section
end
end
def rowsD (rs : List (List Str)) : D := .lst (rs.map fun r => .lst (r.map D.str))
def curFs (rs : List (List Str)) (l a : Nat) : List (Str × D) := [("rows", rowsD rs), ("line", .int l), ("at", .int a)]
def seenD (rs : List (List Str)) (l a : Nat) : D := match (rs.getD l [])[a]? with
  | some z => .str z
  | none => .non
theorem lk_rows (rs : List (List Str)) (l a : Nat) : (curFs rs l a).lookup ("rows" : Str) = some (rowsD rs) := by
  unfold curFs
  rw [List.lookup_cons, beq_self_eq_true]
theorem lk_line (rs : List (List Str)) (l a : Nat) : (curFs rs l a).lookup ("line" : Str) = some (.int l) := by
  unfold curFs
  rw [List.lookup_cons, beq_eq_false_iff_ne.mpr (by decide)]
  simp only
  rw [List.lookup_cons, beq_self_eq_true]
theorem lk_pos (rs : List (List Str)) (l a : Nat) : (curFs rs l a).lookup ("at" : Str) = some (.int a) := by
  unfold curFs
  rw [List.lookup_cons, beq_eq_false_iff_ne.mpr (by decide)]
  simp only
  rw [List.lookup_cons, beq_eq_false_iff_ne.mpr (by decide)]
  simp only
  rw [List.lookup_cons, beq_self_eq_true]
theorem atI_nat {α : Type} (xs : List α) (i : Nat) : atI xs (i : Int) = xs[i]? := by
  by_cases h : i < xs.length
  · simp [atI, ixN, h]
  · simp [atI, ixN, h]
/-- the rows of a text: lines of words -/
def okRows (rs : List (List Str)) : Prop := rs.length ≤ 1000 ∧ ∀ r ∈ rs, r.length ≤ 1000
def exText (CT : Addr) (l a : Int) : Exn := (CT, [("word", .int a), ("line", .int l)])
def spRefuse (C CT : Addr) : DL.Spec := fun ds M _ Ψ => ∃ t rs l a, ds = [.raw (.ref t)] ∧ M = [(t, .ins C (curFs rs l a))] ∧ Ψ (exText CT (l + 1) (a + 1)) M
def spSeen (C : Addr) : DL.Spec := fun ds M Φ _ => ∃ t rs l a, ds = [.raw (.ref t)] ∧ M = [(t, .ins C (curFs rs l a))] ∧ l < rs.length ∧ okRows rs ∧ Φ (seenD rs l a) M
section
section
end
section
end
end
theorem lk_no {rs : List (List Str)} {l a : Nat} {m : Str} (h1 : m ≠ "rows") (h2 : m ≠ "line") (h3 : m ≠ "at") : (curFs rs l a).lookup m = none := by
  unfold curFs
  rw [List.lookup_cons, beq_eq_false_iff_ne.mpr h1]
  simp only
  rw [List.lookup_cons, beq_eq_false_iff_ne.mpr h2]
  simp only
  rw [List.lookup_cons, beq_eq_false_iff_ne.mpr h3]
  rfl
theorem put_at (rs : List (List Str)) (l a b : Nat) : putD "at" (.int b) (curFs rs l a) = curFs rs l b := by
  unfold curFs
  rw [putD, if_neg (by decide), putD, if_neg (by decide), putD, if_pos rfl]
theorem use_seen {C t : Addr} {rs : List (List Str)} {l a : Nat} {M : Mem} {Φ : D → Mem → Prop} {Ψ : XP} (k : Nat) (hk : M[k]? = some (t, .ins C (curFs rs l a))) (hl : l < rs.length) (ok : okRows rs) (h : Φ (seenD rs l a) M) : Use (spSeen C) [.raw (.ref t)] M Φ Ψ :=
  .one k t _ hk ⟨t, rs, l, a, rfl, rfl, hl, ok, fun c' e => by
    cases e
    rw [set_same hk]
    exact h⟩
theorem use_refuse {C CT t : Addr} {rs : List (List Str)} {l a : Nat} {M : Mem} {Φ : D → Mem → Prop} {Ψ : XP} (k : Nat) (hk : M[k]? = some (t, .ins C (curFs rs l a))) (h : Ψ (exText CT (l + 1) (a + 1)) M) : Use (spRefuse C CT) [.raw (.ref t)] M Φ Ψ :=
  .one k t _ hk ⟨t, rs, l, a, rfl, rfl, fun c' e => by
    cases e
    rw [set_same hk]
    exact h⟩
def wordOk (rs : List (List Str)) : Prop := ∀ r ∈ rs, ∀ z ∈ r, z.length ≤ 1000000
def spTake (C CT fN : Addr) : DL.Spec := fun ds M Φ Ψ => ∃ t rs l a, ds = [.raw (.ref t), .raw (.ref fN)] ∧ M = [(t, .ins C (curFs rs l a))] ∧ l < rs.length ∧ okRows rs ∧ wordOk rs ∧
  (∀ z, seenD rs l a = .str z → isName (.str z) = true → Φ (.str z) [(t, .ins C (curFs rs l (a + 1)))]) ∧ (isName (seenD rs l a) = false → Ψ (exText CT (l + 1) (a + 1)) M)
theorem seen_is (rs : List (List Str)) (l a : Nat) : seenD rs l a = .non ∨ ∃ z, seenD rs l a = .str z ∧ z ∈ rs.getD l [] := by
  unfold seenD
  cases h : (rs.getD l [])[a]? with
  | none => exact .inl rfl
  | some z => exact .inr ⟨z, rfl, List.mem_of_getElem? h⟩
section
end
/-- nothing is raised where the line ends -/
def spNeedEnd (C CT : Addr) : DL.Spec := fun ds M Φ Ψ => ∃ t rs l a, ds = [.raw (.ref t)] ∧ M = [(t, .ins C (curFs rs l a))] ∧ l < rs.length ∧ okRows rs ∧ (seenD rs l a = .non → Φ .non M) ∧ (seenD rs l a ≠ .non → Ψ (exText CT (l + 1) (a + 1)) M)
def spIsLast (C : Addr) : DL.Spec := fun ds M Φ _ => ∃ t rs l a, ds = [.raw (.ref t)] ∧ M = [(t, .ins C (curFs rs l a))] ∧ okRows rs ∧ Φ (.bl (decide (((l + 1 : Nat) : Int) = rs.length))) M
section
end
/-- goes_on(True, False) -/
def spGoesOn (C CT : Addr) : DL.Spec := fun ds M Φ Ψ => ∃ t rs l a, ds = [.raw (.ref t), .bl true, .bl false] ∧ M = [(t, .ins C (curFs rs l a))] ∧ l < rs.length ∧ okRows rs ∧
  (seenD rs l a = .non ∧ l + 1 = rs.length → Φ (.bl false) M) ∧ (¬ (seenD rs l a = .non ∧ l + 1 = rs.length) → Ψ (exText CT (l + 1) (a + 1)) M)
section
theorem use_isLast {t : Addr} {rs : List (List Str)} {l a : Nat} {M : Mem} {Φ : D → Mem → Prop} {Ψ : XP} (k : Nat) (hk : M[k]? = some (t, .ins C (curFs rs l a))) (ok : okRows rs) (h : Φ (.bl (decide (((l + 1 : Nat) : Int) = rs.length))) M) : Use (spIsLast C) [.raw (.ref t)] M Φ Ψ :=
  .one k t _ hk ⟨t, rs, l, a, rfl, rfl, ok, fun c' e => by
    cases e
    rw [set_same hk]
    exact h⟩
theorem use_needEnd {CT t : Addr} {rs : List (List Str)} {l a : Nat} {M : Mem} {Φ : D → Mem → Prop} {Ψ : XP} (k : Nat) (hk : M[k]? = some (t, .ins C (curFs rs l a))) (hl : l < rs.length) (ok : okRows rs) (yes : seenD rs l a = .non → Φ .non M) (no : seenD rs l a ≠ .non → Ψ (exText CT (l + 1) (a + 1)) M) : Use (spNeedEnd C CT) [.raw (.ref t)] M Φ Ψ :=
  .one k t _ hk ⟨t, rs, l, a, rfl, rfl, hl, ok, fun z c' e => by
    cases e
    rw [set_same hk]
    exact yes z, fun z c' e => by
    cases e
    rw [set_same hk]
    exact no z⟩
end
def spCInit (C : Addr) : DL.Spec := fun ds M Φ _ => ∃ t rs, ds = [.raw (.ref t), rowsD rs] ∧ M = [(t, .ins C [])] ∧ Φ .non [(t, .ins C (curFs rs 0 0))]
section
end
noncomputable def wordText (zs : List Str) : Str := if zs.length = 0 then "-" else Txt.join " " zs
def spWordText : DL.Spec := fun ds M Φ _ => ∃ d zs, ds = [d] ∧ M = [] ∧ okS d zs ∧ (zs.map (·.length)).sum + zs.length ≤ 1000000 ∧ Φ (.str (wordText zs)) []
section
end
def linesOf (z : Str) : List (List Str) := (Txt.split z ("\n" : Str)).map fun x => Txt.split x (" " : Str)
def spRowsOf (CT : Addr) : DL.Spec := fun ds M Φ Ψ => ∃ d n, ds = [d] ∧ M = [] ∧ tyN d = some n ∧ ((∀ z, d ≠ .str z) → Ψ (exText CT 0 0) []) ∧ ∀ z, d = .str z → z.length ≤ 100000 ∧ (Txt.split z ("\n" : Str)).length ≤ 100000 ∧ (∀ x ∈ Txt.split z ("\n" : Str), x.length ≤ 100000) ∧ Φ (rowsD (linesOf z)) []
section
end
/-- the first word of a row, from place a on, that is no name -/
noncomputable def badAt (r : List Str) (a : Nat) : Option Nat := ((r.drop a).findIdx? fun z => !isName (.str z)).map (a + ·)
/-- what is read: the word, or the wrong word's place in the line -/
noncomputable def wordOf (rs : List (List Str)) : Except Nat (List Str) :=
  if (rs.getD 0 [])[0]? = some ("-" : Str) then (if (rs.getD 0 []).length ≤ 1 ∧ rs.length = 1 then .ok [] else .error 2)
  else match badAt (rs.getD 0 []) 0 with
    | some i => .error (i + 1)
    | none => if rs.length = 1 then .ok (rs.getD 0 []) else .error ((rs.getD 0 []).length + 1)
theorem badAt_step {r : List Str} {a : Nat} (h : a < r.length) : badAt r a = if isName (.str r[a]) = true then badAt r (a + 1) else some a := by
  unfold badAt
  rw [List.drop_eq_getElem_cons h, List.findIdx?_cons]
  cases e : isName (.str r[a]) with
  | true =>
    simp only [Bool.not_true, Bool.false_eq_true, if_false, if_true]
    rw [Option.map_map]
    congr 1
    funext i
    show a + (i + 1) = a + 1 + i
    omega
  | false => simp
theorem badAt_end (r : List Str) : badAt r r.length = none := by
  unfold badAt
  rw [List.drop_length]
  rfl
def textOk (z : Str) : Prop := z.length ≤ 100000 ∧ (Txt.split z ("\n" : Str)).length ≤ 100000 ∧ (∀ x ∈ Txt.split z ("\n" : Str), x.length ≤ 100000) ∧ okRows (linesOf z) ∧ wordOk (linesOf z) ∧ 0 < (linesOf z).length ∧ 0 < ((linesOf z).getD 0 []).length
noncomputable def spWordOf (CT : Addr) : DL.Spec := fun ds M Φ Ψ => ∃ d n, ds = [d] ∧ M = [] ∧ tyN d = some n ∧ ((∀ z, d ≠ .str z) → Ψ (exText CT 0 0) []) ∧ ∀ z, d = .str z → textOk z ∧ (∀ r, wordOf (linesOf z) = .ok r → Φ (.tup (r.map .str)) []) ∧ ∀ a, wordOf (linesOf z) = .error a → Ψ (exText CT 1 a) []
theorem use_take {C CT fN t : Addr} {rs : List (List Str)} {l a : Nat} {M : Mem} {Φ : D → Mem → Prop} {Ψ : XP} (k : Nat) (hk : M[k]? = some (t, .ins C (curFs rs l a))) (hl : l < rs.length) (ok : okRows rs) (wo : wordOk rs) (yes : ∀ z, seenD rs l a = .str z → isName (.str z) = true → Φ (.str z) (M.set k (t, .ins C (curFs rs l (a + 1))))) (no : isName (seenD rs l a) = false → Ψ (exText CT (l + 1) (a + 1)) M) : Use (spTake C CT fN) [.raw (.ref t), .raw (.ref fN)] M Φ Ψ :=
  .one k t _ hk ⟨t, rs, l, a, rfl, rfl, hl, ok, wo, fun z h1 h2 c' e => by
    cases e
    exact yes z h1 h2, fun h1 c' e => by
    cases e
    rw [set_same hk]
    exact no h1⟩
theorem use_goes {C CT t : Addr} {rs : List (List Str)} {l a : Nat} {M : Mem} {Φ : D → Mem → Prop} {Ψ : XP} (k : Nat) (hk : M[k]? = some (t, .ins C (curFs rs l a))) (hl : l < rs.length) (ok : okRows rs) (yes : seenD rs l a = .non ∧ l + 1 = rs.length → Φ (.bl false) M) (no : ¬ (seenD rs l a = .non ∧ l + 1 = rs.length) → Ψ (exText CT (l + 1) (a + 1)) M) : Use (spGoesOn C CT) [.raw (.ref t), .bl true, .bl false] M Φ Ψ :=
  .one k t _ hk ⟨t, rs, l, a, rfl, rfl, hl, ok, fun z c' e => by
    cases e
    rw [set_same hk]
    exact yes z, fun z c' e => by
    cases e
    rw [set_same hk]
    exact no z⟩
section
end
def an36 : Str := "abcdefghijklmnopqrstuvwxyz0123456789"
theorem an36_list : an36.cps.toList = (List.range 26).map (97 + ·) ++ (List.range 10).map (48 + ·) := by decide +kernel
theorem mem_alph {c : Nat} : c ∈ alph.cps.toList ↔ 97 ≤ c ∧ c ≤ 122 := by
  rw [alph_list, List.mem_map]
  constructor
  · rintro ⟨i, hi, rfl⟩
    rw [List.mem_range] at hi
    omega
  · intro h
    exact ⟨c - 97, List.mem_range.mpr (by omega), by omega⟩
theorem mem_36 {c : Nat} : c ∈ an36.cps.toList ↔ (97 ≤ c ∧ c ≤ 122) ∨ (48 ≤ c ∧ c ≤ 57) := by
  rw [an36_list, List.mem_append, List.mem_map, List.mem_map]
  constructor
  · rintro (⟨i, hi, rfl⟩ | ⟨i, hi, rfl⟩)
    · rw [List.mem_range] at hi
      omega
    · rw [List.mem_range] at hi
      omega
  · rintro (h | h)
    · exact .inl ⟨c - 97, List.mem_range.mpr (by omega), by omega⟩
    · exact .inr ⟨c - 48, List.mem_range.mpr (by omega), by omega⟩
theorem uni : ∀ c, c < 128 → Unicode.isAlnum c = (decide (48 ≤ c ∧ c ≤ 57) || decide (97 ≤ c ∧ c ≤ 122) || decide (65 ≤ c ∧ c ≤ 90)) ∧ Unicode.isLower c = decide (97 ≤ c ∧ c ≤ 122) ∧ Unicode.isUpper c = decide (65 ≤ c ∧ c ≤ 90) ∧ Unicode.isTitle c = false ∧ Unicode.isAlpha c = (decide (97 ≤ c ∧ c ≤ 122) || decide (65 ≤ c ∧ c ≤ 90)) := by decide +kernel
def lawNm (z : Str) : Bool := decide (1 ≤ (z.length : Int)) && decide ((z.length : Int) ≤ 12) && decide (z.cps.toList.headD 0 ∈ alph.cps.toList) && z.cps.toList.all fun c => decide (c ∈ an36.cps.toList)
theorem nm_eq (z : Str) : isName (.str z) = lawNm z := by
  have hz : isName (.str z) = (decide (1 ≤ (z.length : Int)) && decide ((z.length : Int) ≤ 12) && Txt.isascii z && Txt.isalnum z && Txt.islower z && Txt.isalpha ⟨#[z.cps.toList.headD 0]⟩) := rfl
  rw [hz]
  unfold lawNm
  have hl : z.length = z.cps.toList.length := by simp [Str.length]
  by_cases h1 : 1 ≤ (z.length : Int)
  · rw [decide_eq_true h1]
    by_cases h2 : (z.length : Int) ≤ 12
    · rw [decide_eq_true h2]
      simp only [Bool.true_and]
      have hpos : z.length > 0 := by omega
      have a1 : Txt.isascii z = z.cps.toList.all fun c => decide (c < 128) := by
        unfold Txt.isascii
        rw [Array.all_toList]
      have a2 : Txt.isalnum z = z.cps.toList.all Unicode.isAlnum := by
        unfold Txt.isalnum
        rw [decide_eq_true hpos, Bool.true_and, Array.all_toList]
      have a3 : Txt.islower z = (z.cps.toList.any Unicode.isLower && !z.cps.toList.any fun c => Unicode.isUpper c || Unicode.isTitle c) := by
        unfold Txt.islower
        rw [Array.any_toList, Array.any_toList]
      have a4 : ∀ a, Txt.isalpha ⟨#[a]⟩ = Unicode.isAlpha a := fun a => by
        show (decide (1 > 0) && (#[a].all Unicode.isAlpha)) = _
        simp
      rw [a1, a2, a3, a4]
      generalize z.cps.toList = l at *
      cases l with
      | nil =>
        rw [List.length_nil] at hl
        omega
      | cons a l =>
        rw [Bool.eq_iff_iff]
        simp only [List.headD_cons, Bool.true_and, Bool.and_eq_true, List.all_eq_true, decide_eq_true_eq, List.any_eq_true, Bool.not_eq_true', mem_alph, mem_36]
        constructor
        · rintro ⟨⟨⟨h3, h4⟩, h5, h6⟩, h7⟩
          have up : ∀ c ∈ a :: l, (97 ≤ c ∧ c ≤ 122) ∨ (48 ≤ c ∧ c ≤ 57) := fun c hc => by
            obtain ⟨u1, u2, u3, u4, u5⟩ := uni c (h3 c hc)
            have h4' := h4 c hc
            rw [u1] at h4'
            have nu : ¬ (65 ≤ c ∧ c ≤ 90) := fun k => by
              have : (List.any (a :: l) fun c => Unicode.isUpper c || Unicode.isTitle c) = true := List.any_eq_true.mpr ⟨c, hc, by rw [u3, decide_eq_true k]; rfl⟩
              rw [this] at h6
              cases h6
            simp only [Bool.or_eq_true, decide_eq_true_eq] at h4'
            omega
          refine ⟨?_, up⟩
          obtain ⟨u1, u2, u3, u4, u5⟩ := uni a (h3 a List.mem_cons_self)
          have h7' : Unicode.isAlpha a = true := h7
          rw [u5] at h7'
          simp only [Bool.or_eq_true, decide_eq_true_eq] at h7'
          have := up a List.mem_cons_self
          omega
        · rintro ⟨h3, h4⟩
          have lt : ∀ c ∈ a :: l, c < 128 := fun c hc => by
            have := h4 c hc
            omega
          refine ⟨⟨⟨lt, fun c hc => ?_⟩, ⟨a, List.mem_cons_self, ?_⟩, ?_⟩, ?_⟩
          · rw [(uni c (lt c hc)).1]
            have := h4 c hc
            simp only [Bool.or_eq_true, decide_eq_true_eq]
            omega
          · rw [(uni a (lt a List.mem_cons_self)).2.1]
            exact decide_eq_true h3
          · rw [Bool.eq_false_iff]
            intro hh
            obtain ⟨c, hc, hu⟩ := List.any_eq_true.mp hh
            obtain ⟨u1, u2, u3, u4, u5⟩ := uni c (lt c hc)
            rw [u3, u4, Bool.or_false] at hu
            have := of_decide_eq_true hu
            have := h4 c hc
            omega
          · have : Unicode.isAlpha a = true := by
              rw [(uni a (lt a List.mem_cons_self)).2.2.2.2, decide_eq_true h3]
              rfl
            exact this
    · rw [decide_eq_false h2]
      simp
  · rw [decide_eq_false h1]
    simp
theorem name_of {i : Nat} {z : Str} (hi : i < 10) (h : NameOf i z) : isName (.str z) = true := by
  obtain ⟨w, pl, h1, h2, h3, hl, rfl⟩ := h
  rw [nm_eq]
  unfold lawNm
  have e : (⟨(w.take pl ++ (48 + i) :: w.drop pl).toArray⟩ : Str).length = w.length + 1 := by
    rw [str_len, List.length_append, List.length_take, List.length_cons, List.length_drop]
    omega
  rw [e]
  simp only [Bool.and_eq_true, decide_eq_true_eq, List.all_eq_true, mem_alph, mem_36]
  refine ⟨⟨⟨by omega, by omega⟩, ?_⟩, fun c hc => ?_⟩
  · cases w with
    | nil => simp at h2; omega
    | cons a r =>
      cases pl with
      | zero => omega
      | succ pl =>
        show 97 ≤ a ∧ a ≤ 122
        exact hl a List.mem_cons_self
  · have hc : c ∈ w.take pl ++ (48 + i) :: w.drop pl := hc
    rcases List.mem_append.mp hc with hc | hc
    · exact .inl (hl c (List.mem_of_mem_take hc))
    · rcases List.mem_cons.mp hc with rfl | hc
      · exact .inr ⟨by omega, by omega⟩
      · exact .inl (hl c (List.mem_of_mem_drop hc))
theorem asc_ok {z : Str} (h : Txt.isascii z = true) : PyData.strOk z = true := by
  unfold Txt.isascii at h
  unfold PyData.strOk
  rw [Array.all_eq_true] at *
  intro i hi
  have := h i hi
  simp only [decide_eq_true_eq] at *
  omega
theorem name_ok {z : Str} (h : isName (.str z) = true) : PyData.strOk z = true := by
  have h : (decide (1 ≤ (z.length : Int)) && decide ((z.length : Int) ≤ 12) && Txt.isascii z && Txt.isalnum z && Txt.islower z && Txt.isalpha ⟨#[z.cps.toList.headD 0]⟩) = true := h
  simp only [Bool.and_eq_true] at h
  exact asc_ok h.1.1.1.2
theorem fit_tup {xs : List D} (h1 : ∀ x ∈ xs, plain x = true ∧ (py x).canLay0 = true ∧ (py x).depth ≤ 60) : fit (.tup xs) = true := by
  have a : ∀ ys : List D, (∀ x ∈ ys, plain x = true ∧ (py x).canLay0 = true ∧ (py x).depth ≤ 60) → plainA ys = true ∧ PyData.canLayAll0 (pyA ys) = true ∧ PyData.depthAll (pyA ys) ≤ 60 := by
    intro ys
    induction ys with
    | nil => exact fun _ => ⟨rfl, rfl, Nat.zero_le _⟩
    | cons y ys ih =>
      intro h
      obtain ⟨i1, i2, i3⟩ := ih fun x hx => h x (List.mem_cons_of_mem _ hx)
      obtain ⟨j1, j2, j3⟩ := h y List.mem_cons_self
      refine ⟨by rw [plainA, j1, i1]; rfl, by rw [pyA, PyData.canLayAll0, j2, i2]; rfl, ?_⟩
      rw [pyA, PyData.depthAll]
      omega
  obtain ⟨i1, i2, i3⟩ := a xs h1
  show (plain (.tup xs) && (PyData.canLay0 (py (.tup xs)) && decide ((py (.tup xs)).depth ≤ 64))) = true
  have e1 : plain (.tup xs) = true := i1
  have e2 : PyData.canLay0 (py (.tup xs)) = true := i2
  have e3 : (py (.tup xs)).depth ≤ 64 := by
    show PyData.depthAll (pyA xs) + 1 ≤ 64
    omega
  rw [e1, e2, decide_eq_true e3]
  rfl
theorem fit_lst {xs : List D} (h1 : ∀ x ∈ xs, plain x = true ∧ (py x).canLay0 = true ∧ (py x).depth ≤ 60) : fit (.lst xs) = true := fit_tup h1
theorem eqd_nil (xs : List D) : eqd (.lst xs) (.lst []) = xs.isEmpty := by
  cases xs <;> simp [eqd, py, pyA, PyData.eqv, PyData.eqvAll]
/-- a value that the law's own checks are asked about -/
def okn (d : D) : Prop := okv d ∧ plain d = true ∧ (py d).canLay0 = true ∧ (py d).depth ≤ 60
def okwn (d : D) : Prop := (∃ n, tyN d = some n) ∧ ∀ xs, d = .tup xs → xs.length ≤ 1000 ∧ ∀ x ∈ xs, okn x
noncomputable def spNm : DL.Spec := DL.pureS (fun ds => ∃ d, ds = [d] ∧ okn d) fun ds => .bl (isName (ds.headD .non))
noncomputable def spWd : DL.Spec := DL.pureS (fun ds => ∃ d, ds = [d] ∧ okwn d) fun ds => .bl (isWord (ds.headD .non))
def spSame : DL.Spec := fun ds M Φ _ => ∃ k, ds = [.bl k, .bl k] ∧ M = [] ∧ Φ (.bl true) []
def spBefore : DL.Spec := fun ds M Φ _ => ∃ zs, ds = [.tup (zs.map D.str)] ∧ M = [] ∧ Φ (placeD zs) []
theorem use_nm {M : Mem} {Φ : D → Mem → Prop} {Ψ : XP} {d : D} (h : okn d) (k : Φ (.bl (isName d)) M) : Use spNm [d] M Φ Ψ := .none ⟨rfl, ⟨d, rfl, h⟩, k⟩
theorem use_wd {M : Mem} {Φ : D → Mem → Prop} {Ψ : XP} {d : D} (h : okwn d) (k : Φ (.bl (isWord d)) M) : Use spWd [d] M Φ Ψ := .none ⟨rfl, ⟨d, rfl, h⟩, k⟩
theorem use_same {M : Mem} {Φ : D → Mem → Prop} {Ψ : XP} {x y : Bool} (e : x = y) (k : Φ (.bl true) M) : Use spSame [.bl x, .bl y] M Φ Ψ := .none ⟨y, by rw [e], rfl, k⟩
theorem filter_all {α : Type} (p : α → Bool) (xs : List α) : ((xs.filter fun x => !p x).map id).isEmpty = xs.all p := by
  rw [List.map_id, Bool.eq_iff_iff, List.isEmpty_iff, List.filter_eq_nil_iff, List.all_eq_true]
  simp
section
section
end
section
end
end
/-- signs below 128 -/
def asc (z : Str) : Prop := ∀ c ∈ z.cps.toList, c < 128
theorem asc_ok' {z : Str} (h : asc z) : PyData.strOk z = true := by
  unfold PyData.strOk
  rw [← Array.all_toList, List.all_eq_true]
  intro c hc
  have := h c hc
  exact decide_eq_true (by omega)
theorem asc_app {a b : Str} (ha : asc a) (hb : asc b) : asc (a ++ b) := fun c hc => by
  have e : (a ++ b).cps.toList = a.cps.toList ++ b.cps.toList := by
    show (a.cps ++ b.cps).toList = _
    rw [Array.toList_append]
  rw [e] at hc
  rcases List.mem_append.mp hc with h | h
  · exact ha c h
  · exact hb c h
theorem asc_cut {z : Str} (h : asc z) (lo hi : Option Int) : asc (cutS z lo hi) := fun c hc => by
  unfold cutS at hc
  exact h c (List.mem_of_mem_drop (List.mem_of_mem_take (by simpa using hc)))
theorem asc_upper {z : Str} (h : asc z) : asc (Txt.upper z) := fun c hc => by
  rw [PyProof.Rows.upper_ascii h] at hc
  have hc : c ∈ (z.cps.map PyProof.Rows.up1).toList := hc
  rw [Array.toList_map] at hc
  obtain ⟨d, hd, rfl⟩ := List.mem_map.mp hc
  have := h d hd
  unfold PyProof.Rows.up1
  split <;> omega
theorem app_len (a b : Str) : (a ++ b).length = a.length + b.length := by
  show (a.cps ++ b.cps).size = _
  rw [Array.size_append]
  rfl
theorem name_asc {z : Str} (h : isName (.str z) = true) : asc z ∧ z.length ≤ 12 ∧ 1 ≤ z.length := by
  rw [nm_eq] at h
  unfold lawNm at h
  simp only [Bool.and_eq_true, decide_eq_true_eq, List.all_eq_true, mem_alph, mem_36] at h
  refine ⟨fun c hc => ?_, by omega, by omega⟩
  have := h.2 c hc
  omega
theorem okn_str {z : Str} (h : asc z) (hl : z.length ≤ 1000000) : okn (.str z) := ⟨⟨⟨_, rfl⟩, fun y e => by cases e; exact hl⟩, rfl, asc_ok' h, Nat.zero_le _⟩
theorem okn_int (i : Int) : okn (.int i) := ⟨⟨⟨_, rfl⟩, fun y e => by cases e⟩, rfl, rfl, Nat.zero_le _⟩
theorem okn_bl (i : Bool) : okn (.bl i) := ⟨⟨⟨_, rfl⟩, fun y e => by cases e⟩, rfl, rfl, Nat.zero_le _⟩
theorem okn_non : okn .non := ⟨⟨⟨_, rfl⟩, fun y e => by cases e⟩, rfl, rfl, Nat.zero_le _⟩
theorem okn_t1 {z : Str} (h : asc z) : okn (.tup [.str z]) := ⟨⟨⟨_, rfl⟩, fun y e => by cases e⟩, rfl, by
  show (PyData.strOk z && true) = true
  rw [asc_ok' h]
  rfl, by show 0 + 1 ≤ 60; decide⟩
theorem okn_l1 {z : Str} (h : asc z) : okn (.lst [.str z]) := ⟨⟨⟨_, rfl⟩, fun y e => by cases e⟩, rfl, by
  show (PyData.strOk z && true) = true
  rw [asc_ok' h]
  rfl, by show 0 + 1 ≤ 60; decide⟩
theorem asc_of {z : Str} (h : (z.cps.toList.all fun c => decide (c < 128)) = true) : asc z := fun c hc => of_decide_eq_true (List.all_eq_true.mp h c hc)
/-- names that the law draws -/
def nms (zs : List Str) : Prop := ∀ z ∈ zs, isName (.str z) = true ∧ z.length ≤ 9
def spPickT : DL.Spec := fun ds M Φ _ => ∃ p xs n c, ds = [.raw (.ref p), .tup xs] ∧ xs ≠ [] ∧ xs.length ≤ 1000000 ∧ M = [(p, c)] ∧ PenIs (n + 1) c ∧ ∀ x c', x ∈ xs → PenIs n c' → Φ x [(p, c')]
theorem use_pickT {M : Mem} {Φ : D → Mem → Prop} {Ψ : XP} (k : Nat) {p : Addr} {c : Cell} {n : Nat} {xs : List D} (hk : M[k]? = some (p, c)) (hc : PenIs (n + 1) c) (h0 : xs ≠ []) (h1 : xs.length ≤ 1000000) (h : ∀ x c', x ∈ xs → PenIs n c' → Φ x (M.set k (p, c'))) : Use spPickT [.raw (.ref p), .tup xs] M Φ Ψ :=
  .one k p c hk ⟨p, xs, n, c, rfl, h0, h1, rfl, hc, fun x c' hx hc' c'' e => by cases e; exact h x c' hx hc'⟩
def spCalls : DL.Spec := fun ds M Φ _ => ∃ p m n c, ds = [.raw (.ref p), .int (m : Nat)] ∧ m ≤ 10 ∧ M = [(p, c)] ∧ PenIs (n + 11 * m) c ∧ ∀ (zs : List Str) c', zs.length = m → nms zs → PenIs n c' → Φ (.tup (zs.map D.str)) [(p, c')]
theorem use_calls {M : Mem} {Φ : D → Mem → Prop} {Ψ : XP} (k : Nat) {p : Addr} {c : Cell} {n m : Nat} (hk : M[k]? = some (p, c)) (hc : PenIs (n + 11 * m) c) (hm : m ≤ 10) (h : ∀ (zs : List Str) c', zs.length = m → nms zs → PenIs n c' → Φ (.tup (zs.map D.str)) (M.set k (p, c'))) : Use spCalls [.raw (.ref p), .int (m : Nat)] M Φ Ψ :=
  .one k p c hk ⟨p, m, n, c, rfl, hm, rfl, hc, fun x c' hx h2 hc' c'' e => by cases e; exact h x c' hx h2 hc'⟩
def spSome : DL.Spec := fun ds M Φ _ => ∃ p zs m n c, ds = [.raw (.ref p), .tup (zs.map D.str), .int (m : Nat)] ∧ zs ≠ [] ∧ zs.length ≤ 1000 ∧ m ≤ 100 ∧ M = [(p, c)] ∧ PenIs (n + m + 1) c ∧ ∀ (ws : List Str) c', ws.length ≤ m → (∀ z ∈ ws, z ∈ zs) → PenIs n c' → Φ (.tup (ws.map D.str)) [(p, c')]
theorem use_some {M : Mem} {Φ : D → Mem → Prop} {Ψ : XP} (k : Nat) {p : Addr} {c : Cell} {zs : List Str} {n m : Nat} (hk : M[k]? = some (p, c)) (hc : PenIs (n + m + 1) c) (h0 : zs ≠ []) (h1 : zs.length ≤ 1000) (hm : m ≤ 100) (h : ∀ (ws : List Str) c', ws.length ≤ m → (∀ z ∈ ws, z ∈ zs) → PenIs n c' → Φ (.tup (ws.map D.str)) (M.set k (p, c'))) : Use spSome [.raw (.ref p), .tup (zs.map D.str), .int (m : Nat)] M Φ Ψ :=
  .one k p c hk ⟨p, zs, m, n, c, rfl, h0, h1, hm, rfl, hc, fun x c' hx h2 hc' c'' e => by cases e; exact h x c' hx h2 hc'⟩
def spOdd : DL.Spec := fun ds M Φ _ => ∃ p z n c, ds = [.raw (.ref p), .str z] ∧ isName (.str z) = true ∧ M = [(p, c)] ∧ PenIs (n + 1) c ∧ ∀ x c', okn x → PenIs n c' → Φ x [(p, c')]
theorem use_odd {M : Mem} {Φ : D → Mem → Prop} {Ψ : XP} (k : Nat) {p : Addr} {c : Cell} {n : Nat} {z : Str} (hk : M[k]? = some (p, c)) (hc : PenIs (n + 1) c) (hz : isName (.str z) = true) (h : ∀ x c', okn x → PenIs n c' → Φ x (M.set k (p, c'))) : Use spOdd [.raw (.ref p), .str z] M Φ Ψ :=
  .one k p c hk ⟨p, z, n, c, rfl, hz, rfl, hc, fun x c' hx hc' c'' e => by cases e; exact h x c' hx hc'⟩
theorem strs_sort {zs : List D} (h : ∀ x ∈ zs, ∃ z, x = .str z) : zs.all plain = true ∧ PySem.W.AllAlike (zs.map py) ∧ PySem.W.Sortable (zs.map py) ∧ ∀ x ∈ zs, (py x).depth ≤ 32 := by
  refine ⟨List.all_eq_true.mpr fun x hx => ?_, fun d hd e he => ?_, .inr fun d hd => ?_, fun x hx => ?_⟩
  · obtain ⟨a, rfl⟩ := h x hx
    rfl
  · obtain ⟨x, hx, rfl⟩ := List.mem_map.mp hd
    obtain ⟨y, hy, rfl⟩ := List.mem_map.mp he
    obtain ⟨a, rfl⟩ := h x hx
    obtain ⟨b, rfl⟩ := h y hy
    rfl
  · obtain ⟨x, hx, rfl⟩ := List.mem_map.mp hd
    obtain ⟨a, rfl⟩ := h x hx
    exact ⟨fun q => (nomatch q), fun xs q => (nomatch q)⟩
  · obtain ⟨a, rfl⟩ := h x hx
    exact Nat.zero_le _
section
end
/-- a short plain text -/
def sht (z : Str) : Prop := asc z ∧ z.length ≤ 30
theorem cut_pre {α : Type} {xs : List α} {k : Nat} (h : k ≤ xs.length) : DL.cutD xs none (some (k : Int)) = xs.take k := by
  unfold DL.cutD
  rw [HT.sIx_none, HT.sIx_nat, Nat.min_eq_left h]
  simp
theorem cut_suf {α : Type} {xs : List α} {k : Nat} (h : k ≤ xs.length) : DL.cutD xs (some (k : Int)) none = xs.drop k := by
  unfold DL.cutD
  rw [HT.sIx_none, HT.sIx_nat, Nat.min_eq_left h]
  exact List.take_of_length_le (by rw [List.length_drop]; exact Nat.le_refl _)
theorem cut_one {α : Type} {xs : List α} {k : Nat} (h : k + 1 ≤ xs.length) : DL.cutD xs (some (k : Int)) (some ((k : Int) + 1)) = (xs.drop k).take 1 := by
  have e : (k : Int) + 1 = ((k + 1 : Nat) : Int) := by omega
  unfold DL.cutD
  rw [e, HT.sIx_nat, HT.sIx_nat, Nat.min_eq_left h, Nat.min_eq_left (by omega)]
  congr 1
  omega
def spBentW : DL.Spec := fun ds M Φ _ => ∃ (p : Addr) (ws ms : List Str) (n : Nat) (c : Cell), ds = [.raw (.ref p), .lst (ws.map D.str), .lst (ms.map D.str)] ∧ ws.length ≤ 1000 ∧ ms.length ≤ 1000 ∧ (∀ z ∈ ws, sht z) ∧ (∀ z ∈ ms, sht z) ∧ M = [(p, c)] ∧ PenIs (n + 3) c ∧ ∀ (us : List Str) c', us.length ≤ ws.length + 1 → (∀ z ∈ us, sht z) → PenIs n c' → Φ (.lst (us.map D.str)) [(p, c')]
theorem use_bentW {M : Mem} {Φ : D → Mem → Prop} {Ψ : XP} (k : Nat) {p : Addr} {c : Cell} {ws ms : List Str} {n : Nat} (hk : M[k]? = some (p, c)) (hc : PenIs (n + 3) c) (h0 : ws.length ≤ 1000) (h1 : ms.length ≤ 1000) (hw : ∀ z ∈ ws, sht z) (hm : ∀ z ∈ ms, sht z) (h : ∀ (us : List Str) c', us.length ≤ ws.length + 1 → (∀ z ∈ us, sht z) → PenIs n c' → Φ (.lst (us.map D.str)) (M.set k (p, c'))) : Use spBentW [.raw (.ref p), .lst (ws.map D.str), .lst (ms.map D.str)] M Φ Ψ :=
  .one k p c hk ⟨p, ws, ms, n, c, rfl, h0, h1, hw, hm, rfl, hc, fun x c' hx h2 hc' c'' e => by cases e; exact h x c' hx h2 hc'⟩
theorem sht_lit {z : Str} (h : (z.cps.toList.all fun c => decide (c < 128)) = true) (hl : z.length ≤ 30) : sht z := ⟨asc_of h, hl⟩
noncomputable def dueD (z : Str) : D := match wordOf (linesOf z) with
  | .ok _ => .non
  | .error a => .lst [.str "text", .int 1, .int a]
noncomputable def spFirst : DL.Spec := fun ds M Φ _ => ∃ z : Str, ds = [.str z] ∧ M = [] ∧ asc z ∧ z.length ≤ 900 ∧ Φ (dueD z) []
theorem spl_pieces (s : Nat) : ∀ (xs acc : List Nat), (spl [s] 0 acc xs).length ≤ xs.length + 1 ∧ (∀ p ∈ spl [s] 0 acc xs, p.length ≤ acc.length + xs.length ∧ ∀ c ∈ p, c ∈ acc ∨ c ∈ xs) ∧ spl [s] 0 acc xs ≠ [] ∧ joinL [s] (spl [s] 0 acc xs) = acc ++ xs
  | [], acc => by
    rw [spl_nil]
    refine ⟨Nat.le_refl _, fun p hp => ?_, by simp, by simp [joinL]⟩
    rw [List.mem_singleton.mp hp]
    exact ⟨by simp, fun c hc => .inl hc⟩
  | c :: xs, acc => by
    by_cases h : pre [s] (c :: xs) = true
    · have hcs : c = s := by simpa [pre] using h
      have e : spl [s] 0 acc (c :: xs) = acc :: spl [s] 0 [] xs := by
        rw [spl_hit h]
        rfl
      obtain ⟨i1, i2, i3, i4⟩ := spl_pieces s xs []
      rw [e]
      refine ⟨by simp only [List.length_cons]; omega, fun p hp => ?_, by simp, ?_⟩
      · rcases List.mem_cons.mp hp with rfl | hp
        · exact ⟨by omega, fun d hd => .inl hd⟩
        · obtain ⟨q1, q2⟩ := i2 p hp
          refine ⟨by simp only [List.length_nil, List.length_cons] at *; omega, fun d hd => ?_⟩
          rcases q2 d hd with q | q
          · cases q
          · exact .inr (List.mem_cons_of_mem _ q)
      · cases h2 : spl [s] 0 [] xs with
        | nil => exact absurd h2 i3
        | cons y ys =>
          rw [h2] at i4
          show acc ++ ([s] ++ joinL [s] (y :: ys)) = acc ++ c :: xs
          rw [i4, hcs]
          rfl
    · have e : spl [s] 0 acc (c :: xs) = spl [s] 0 (acc ++ [c]) xs := by
        show (if pre [s] (c :: xs) = true then _ else _) = _
        rw [if_neg h]
      obtain ⟨i1, i2, i3, i4⟩ := spl_pieces s xs (acc ++ [c])
      rw [e]
      refine ⟨by simp only [List.length_cons]; omega, fun p hp => ?_, i3, by rw [i4]; simp⟩
      obtain ⟨q1, q2⟩ := i2 p hp
      refine ⟨by simp only [List.length_append, List.length_cons, List.length_nil] at *; omega, fun d hd => ?_⟩
      rcases q2 d hd with q | q
      · rcases List.mem_append.mp q with q | q
        · exact .inl q
        · exact .inr (List.mem_cons.mpr (.inl (List.mem_singleton.mp q)))
      · exact .inr (List.mem_cons_of_mem _ q)
/-- what is true of the pieces of a text split at one sign -/
abbrev Pcs (y z : Str) : Prop := (Txt.split z y).length ≤ z.length + 1 ∧ (∀ p ∈ Txt.split z y, p.length ≤ z.length ∧ ∀ c ∈ tl p, c ∈ tl z) ∧ Txt.split z y ≠ [] ∧ Txt.join y (Txt.split z y) = z
theorem split_is {y : Str} {s : Nat} (ey : tl y = [s]) (hs : y.cps.all (· < 256) = true) (z : Str) : Pcs y z := by
  have h := split_spl z y (by rw [ey]; simp) (kind_ok hs)
  obtain ⟨i1, i2, i3, i4⟩ := spl_pieces s (tl z) []
  rw [ey] at h
  rw [← h] at i1 i2 i3 i4
  have lz : ∀ p : Str, (tl p).length = p.length := fun p => by
    show p.cps.toList.length = p.cps.size
    exact Array.length_toList
  refine ⟨?_, fun p hp => ?_, fun e => i3 (by rw [e]; rfl), ?_⟩
  · rw [List.length_map, lz] at i1
    exact i1
  · obtain ⟨q1, q2⟩ := i2 (tl p) (List.mem_map_of_mem hp)
    rw [lz, lz] at q1
    refine ⟨by simpa using q1, fun c hc => ?_⟩
    rcases q2 c hc with q | q
    · cases q
    · exact q
  · rw [join_eq]
    have e : tl (Str.join y (Txt.split z y)) = tl z := by
      rw [tl_join, ey, i4]
      rfl
    have : (⟨(tl (Str.join y (Txt.split z y))).toArray⟩ : Str) = ⟨(tl z).toArray⟩ := by rw [e]
    rw [mk_tl, mk_tl] at this
    exact this
theorem nl_is (z : Str) : Pcs "\n" z := split_is (y := "\n") (s := 10) rfl (by decide +kernel) z
theorem sp_is (z : Str) : Pcs " " z := split_is (y := " ") (s := 32) rfl (by decide +kernel) z
theorem asc_tl {z : Str} : asc z ↔ ∀ c ∈ tl z, c < 128 := Iff.rfl
theorem row_of {z : Str} {r : List Str} (h : r ∈ linesOf z) : ∃ l, l ∈ Txt.split z ("\n" : Str) ∧ r = Txt.split l (" " : Str) := by
  unfold linesOf at h
  obtain ⟨l, hl, e⟩ := List.mem_map.mp h
  exact ⟨l, hl, e.symm⟩
theorem word_in {z : Str} {r : List Str} {y : Str} (h : r ∈ linesOf z) (hy : y ∈ r) : y.length ≤ z.length ∧ ∀ c ∈ tl y, c ∈ tl z := by
  obtain ⟨l, hl, rfl⟩ := row_of h
  have h1 := (nl_is z).2.1 l hl
  have h2 := (sp_is l).2.1 y hy
  exact ⟨by omega, fun c hc => h1.2 c (h2.2 c hc)⟩
theorem lines_pos (z : Str) : 0 < (linesOf z).length := by
  unfold linesOf
  rw [List.length_map]
  exact List.length_pos_iff.mpr (nl_is z).2.2.1
theorem row_len {z : Str} {r : List Str} (h : r ∈ linesOf z) : 0 < r.length ∧ r.length ≤ z.length + 1 := by
  obtain ⟨l, hl, rfl⟩ := row_of h
  have h1 := (nl_is z).2.1 l hl
  have h2 := sp_is l
  exact ⟨List.length_pos_iff.mpr h2.2.2.1, by have := h2.1; omega⟩
theorem row0_mem (z : Str) : (linesOf z).getD 0 [] ∈ linesOf z := by
  have h := lines_pos z
  rw [List.getD_eq_getElem?_getD, List.getElem?_eq_getElem h]
  exact List.getElem_mem h
theorem textOk_of {z : Str} (h : z.length ≤ 900) : textOk z := by
  have h1 := nl_is z
  refine ⟨by omega, by have := h1.1; omega, fun x hx => by have := (h1.2.1 x hx).1; omega, ⟨?_, fun r hr => ?_⟩, fun r hr y hy => ?_, lines_pos z, (row_len (row0_mem z)).1⟩
  · unfold linesOf
    rw [List.length_map]
    have := h1.1
    omega
  · have := (row_len hr).2
    omega
  · have := (word_in hr hy).1
    omega
def ifBody : Stmt → List Stmt
  | .If _ b _ _ => b
  | _ => []
def ifElse : Stmt → List Stmt
  | .If _ _ b _ => b
  | _ => []
def forBody : Stmt → List Stmt
  | .For _ _ b _ _ => b
  | _ => []
def retOf : Stmt → Expr
  | .Return (some e) _ => e
  | _ => .Constant .none 0 ⟨0, 0, 0, 0⟩
def opRight : Expr → Expr
  | .BinOp _ _ e _ => e
  | e => e
section
section
end
section
end
end
theorem tl_len (p : Str) : (tl p).length = p.length := by
  show p.cps.toList.length = p.cps.size
  exact Array.length_toList
theorem joinL_is (S : List Nat) : ∀ ps : List (List Nat), (joinL S ps).length ≤ (ps.map (·.length)).sum + ps.length * S.length ∧ ∀ c ∈ joinL S ps, c ∈ S ∨ ∃ p ∈ ps, c ∈ p
  | [] => ⟨Nat.zero_le _, fun c hc => by cases hc⟩
  | [p] => by
    refine ⟨by simp [joinL], fun c hc => .inr ⟨p, List.mem_singleton.mpr rfl, hc⟩⟩
  | p :: q :: r => by
    obtain ⟨i1, i2⟩ := joinL_is S (q :: r)
    refine ⟨?_, fun c hc => ?_⟩
    · show (p ++ (S ++ joinL S (q :: r))).length ≤ _
      rw [List.map_cons, List.sum_cons, List.length_cons, Nat.succ_mul]
      simp only [List.length_append]
      omega
    · have hc : c ∈ p ++ (S ++ joinL S (q :: r)) := hc
      rcases List.mem_append.mp hc with hc | hc
      · exact .inr ⟨p, List.mem_cons_self, hc⟩
      · rcases List.mem_append.mp hc with hc | hc
        · exact .inl hc
        · rcases i2 c hc with h | ⟨y, hy, h⟩
          · exact .inl h
          · exact .inr ⟨y, List.mem_cons_of_mem _ hy, h⟩
theorem join_is (y : Str) (ps : List Str) : (Txt.join y ps).length ≤ (ps.map (·.length)).sum + ps.length * y.length ∧ ∀ c ∈ tl (Txt.join y ps), c ∈ tl y ∨ ∃ p ∈ ps, c ∈ tl p := by
  obtain ⟨i1, i2⟩ := joinL_is (tl y) (ps.map tl)
  rw [← tl_join, ← join_eq] at i1 i2
  refine ⟨?_, fun c hc => ?_⟩
  · rw [tl_len, tl_len, List.length_map, List.map_map] at i1
    have e : ((fun p : List Nat => p.length) ∘ tl) = fun p : Str => p.length := by
      funext p
      exact tl_len p
    rw [e] at i1
    exact i1
  · rcases i2 c hc with h | ⟨p, hp, h⟩
    · exact .inl h
    · obtain ⟨z, hz, rfl⟩ := List.mem_map.mp hp
      exact .inr ⟨z, hz, h⟩
theorem sum_le {ps : List Str} {m : Nat} (h : ∀ p ∈ ps, p.length ≤ m) : (ps.map (·.length)).sum ≤ ps.length * m := by
  induction ps with
  | nil => simp
  | cons p ps ih =>
    rw [List.map_cons, List.sum_cons, List.length_cons, Nat.succ_mul]
    have := h p List.mem_cons_self
    have := ih fun q hq => h q (List.mem_cons_of_mem _ hq)
    omega
/-- a joined text of short words -/
theorem bent_is {ws : List Str} (h1 : ws.length ≤ 20) (h : ∀ z ∈ ws, sht z) : (Txt.join " " ws).length ≤ 900 ∧ asc (Txt.join " " ws) := by
  obtain ⟨i1, i2⟩ := join_is " " ws
  have := sum_le fun p hp => (h p hp).2
  have e : (" " : Str).length = 1 := rfl
  refine ⟨by rw [e] at i1; omega, fun c hc => ?_⟩
  rcases i2 c hc with q | ⟨p, hp, q⟩
  · have : c = 32 := by simpa using (show c ∈ [32] from q)
    omega
  · exact (h p hp).1 c q
theorem name_sign {z : Str} (h : isName (.str z) = true) : (10 ∉ tl z) ∧ (32 ∉ tl z) ∧ z ≠ "-" := by
  rw [nm_eq] at h
  unfold lawNm at h
  simp only [Bool.and_eq_true, decide_eq_true_eq, List.all_eq_true, mem_alph, mem_36] at h
  refine ⟨fun q => ?_, fun q => ?_, fun q => ?_⟩
  · have := h.2 10 q
    omega
  · have := h.2 32 q
    omega
  · have := h.2 45 (by rw [q]; exact List.mem_singleton.mpr rfl)
    omega
theorem split_one {y : Str} {s : Nat} (ey : tl y = [s]) (hs : y.cps.all (· < 256) = true) {z : Str} (h : s ∉ tl z) : Txt.split z y = [z] := by
  have e : Txt.join y [z] = z := by rw [join_eq]; rfl
  have := split_join (s := s) (S := []) ey hs (parts := [z]) (by simp) (fun p hp => by rw [List.mem_singleton.mp hp]; exact h)
  rwa [e] at this
theorem badAt_names {r : List Str} (h : ∀ z ∈ r, isName (.str z) = true) : badAt r 0 = none := by
  unfold badAt
  rw [List.drop_zero, List.findIdx?_eq_none_iff.mpr fun z hz => by rw [h z hz]; rfl]
  rfl
/-- the text of a word, read back -/
theorem read_back {zs : List Str} (h : ∀ z ∈ zs, isName (.str z) = true) (hl : zs.length ≤ 20) : wordOf (linesOf (wordText zs)) = .ok zs ∧ (wordText zs).length ≤ 900 ∧ asc (wordText zs) := by
  unfold wordText
  by_cases h0 : zs.length = 0
  · rw [if_pos h0]
    obtain rfl : zs = [] := List.length_eq_zero_iff.mp h0
    refine ⟨?_, by decide +kernel, asc_of (by decide +kernel)⟩
    have e1 : Txt.split ("-" : Str) ("\n" : Str) = [("-" : Str)] := split_one (s := 10) rfl (by decide +kernel) (by decide +kernel)
    have e2 : Txt.split ("-" : Str) (" " : Str) = [("-" : Str)] := split_one (s := 32) rfl (by decide +kernel) (by decide +kernel)
    have e3 : linesOf "-" = [[("-" : Str)]] := by
      unfold linesOf
      rw [e1, List.map_cons, e2]
      rfl
    rw [e3]
    rfl
  · rw [if_neg h0]
    have hne : zs ≠ [] := fun e => h0 (by rw [e]; rfl)
    obtain ⟨b1, b2⟩ := bent_is hl (fun z hz => ⟨(name_asc (h z hz)).1, by have := (name_asc (h z hz)).2.1; omega⟩)
    refine ⟨?_, b1, b2⟩
    have e1 : Txt.split (Txt.join " " zs) ("\n" : Str) = [Txt.join " " zs] := split_one (s := 10) rfl (by decide +kernel) fun q => by
      rcases (join_is " " zs).2 10 q with q | ⟨p, hp, q⟩
      · exact absurd (show 10 ∈ [32] from q) (by decide)
      · exact (name_sign (h p hp)).1 q
    have e2 : Txt.split (Txt.join " " zs) (" " : Str) = zs := split_join (s := 32) (S := []) rfl (by decide +kernel) hne fun p hp => (name_sign (h p hp)).2.1
    have e3 : linesOf (Txt.join " " zs) = [zs] := by
      unfold linesOf
      rw [e1, List.map_cons, e2]
      rfl
    rw [e3]
    unfold wordOf
    obtain ⟨a, r, rfl⟩ : ∃ a r, zs = a :: r := by
      cases zs with
      | nil => exact absurd rfl hne
      | cons a r => exact ⟨a, r, rfl⟩
    have e4 : ([a :: r] : List (List Str)).getD 0 [] = a :: r := rfl
    rw [e4, if_neg (show ¬ ((a :: r)[0]? = some ("-" : Str)) from fun q => (name_sign (h a List.mem_cons_self)).2.2 (Option.some.inj q)), badAt_names h]
    rfl
/-- what is read is told so again -/
theorem told_back {z : Str} {r : List Str} (h : wordOf (linesOf z) = .ok r) : wordText r = z ∧ (∀ y ∈ r, y.length ≤ z.length ∧ ∀ c ∈ tl y, c ∈ tl z) ∧ r.length ≤ z.length + 1 := by
  have hm := row0_mem z
  have ht : ∀ y ∈ (linesOf z).getD 0 [], y.length ≤ z.length ∧ ∀ c ∈ tl y, c ∈ tl z := fun y hy => word_in hm hy
  have hp := row_len hm
  obtain ⟨l, hl, hlr⟩ := row_of hm
  have single : (linesOf z).length = 1 → l = z := fun e => by
    unfold linesOf at e
    rw [List.length_map] at e
    have j := (nl_is z).2.2.2
    cases q : Txt.split z ("\n" : Str) with
    | nil => exact absurd q (nl_is z).2.2.1
    | cons a t =>
      rw [q] at e hl j
      have : t = [] := List.length_eq_zero_iff.mp (by simpa using e)
      subst this
      rw [List.mem_singleton.mp hl]
      rw [join_eq] at j
      exact j
  have jl := (sp_is l).2.2.2
  rw [← hlr] at jl
  unfold wordOf at h
  generalize (linesOf z).getD 0 [] = r0 at *
  split at h
  · rename_i h0
    split at h
    · rename_i h1
      cases h
      have e : r0 = [("-" : Str)] := by
        cases r0 with
        | nil => cases h0
        | cons a t =>
          have : t = [] := List.length_eq_zero_iff.mp (by have := h1.1; simpa using this)
          subst this
          rw [Option.some.inj h0]
      rw [e] at jl
      refine ⟨?_, fun y hy => by simp at hy, Nat.zero_le _⟩
      rw [← single h1.2, ← jl, join_eq]
      rfl
    · cases h
  · split at h
    · cases h
    · split at h
      · rename_i h1
        cases h
        refine ⟨?_, ht, hp.2⟩
        unfold wordText
        rw [if_neg (by omega), jl, single h1]
      · cases h
theorem okS_of {r : List Str} (h1 : r.length ≤ 1000) (h : ∀ z ∈ r, asc z) (d : D) (hd : d = .tup (r.map D.str) ∨ d = .lst (r.map D.str)) : okS d r := ⟨hd, h1, fun z hz => asc_ok' (h z hz)⟩
theorem shown_ok {zs : List Str} (h1 : zs.length ≤ 20) (h : ∀ z ∈ zs, asc z ∧ z.length ≤ 30) : (py (.tup (zs.map D.str))).shown.length ≤ sizeLine ∧ (py (.tup (zs.map D.str))).showable = true ∧ (py (.tup (zs.map D.str))).depth ≤ 100 := by
  have e1 : ∀ zs : List Str, PyData.shownAll (pyA (zs.map D.str)) = zs.map reprText := by
    intro zs
    induction zs with
    | nil => rfl
    | cons a t ih => show reprText a :: PyData.shownAll (pyA (t.map D.str)) = _; rw [ih]; rfl
  have e2 : ∀ zs : List Str, PyData.showableAll (pyA (zs.map D.str)) = true := by
    intro zs
    induction zs with
    | nil => rfl
    | cons a t ih => exact ih
  refine ⟨?_, e2 zs, ?_⟩
  · show (tupleText (PyData.shownAll (pyA (zs.map D.str)))).length ≤ sizeLine
    rw [e1]
    unfold tupleText
    rw [app_len, app_len, ← join_eq]
    have j := (join_is ", " (zs.map reprText)).1
    have s := sum_le (ps := zs.map reprText) (m := 302) fun p hp => by
      obtain ⟨z, hz, rfl⟩ := List.mem_map.mp hp
      have := PySem.StrLaws.reprText_len z fun c hc => by have := (h z hz).1 c hc; omega
      have := (h z hz).2
      omega
    rw [List.length_map] at s j
    have l1 : ("(" : Str).length = 1 := rfl
    have l2 : (", " : Str).length = 2 := rfl
    have l3 : ((if (zs.map reprText).length == 1 then ",)" else ")" : String) : Str).length ≤ 2 := by split <;> decide +kernel
    rw [l2] at j
    have sl := sizeLine_eq
    generalize (Txt.join ", " (zs.map reprText)).length = J at *
    generalize ((if (zs.map reprText).length == 1 then ",)" else ")" : String) : Str).length = J2 at *
    rw [l1]
    omega
  · show PyData.depthAll (pyA (zs.map D.str)) + 1 ≤ 100
    rw [depth_str]
    decide
theorem cutP {α : Type} (xs : List α) (k : Nat) : DL.cutD xs none (some (k : Int)) = xs.take k := by
  by_cases h : k ≤ xs.length
  · exact cut_pre h
  · unfold DL.cutD
    rw [HT.sIx_none, HT.sIx_nat, Nat.min_eq_right (by omega), List.take_of_length_le (by simp), List.take_of_length_le (by omega)]
    rfl
theorem cutQ {α : Type} (xs : List α) (k : Nat) : DL.cutD xs (some (k : Int)) none = xs.drop k := by
  by_cases h : k ≤ xs.length
  · exact cut_suf h
  · unfold DL.cutD
    rw [HT.sIx_none, HT.sIx_nat, Nat.min_eq_right (by omega), List.drop_of_length_le (by omega : xs.length ≤ k), List.drop_of_length_le (Nat.le_refl _), List.take_nil]
theorem eqd_nilT (xs : List D) : eqd (.tup xs) (.tup []) = xs.isEmpty := by
  cases xs <;> simp [eqd, py, pyA, PyData.eqv, PyData.eqvAll]
end DN
end

section
set_option Elab.async false
set_option linter.all false
namespace DN
open PySem
def top (i : Nat) : Stmt := PySem.Challenge.pw_doneornot_k28_whole_texts_of_plans.main.body.getD i (.Pass ⟨0, 0, 0, 0⟩)
end DN
end

section
set_option Elab.async false
set_option linter.all false
set_option maxRecDepth 100000
set_option maxHeartbeats 4000000
set_option pp.maxSteps 700
set_option hygiene false
open PySem PyProof.Rows L2 DL
namespace DN
open PySem PySem.Spec PyProof.Rows L2 DL TL
abbrev sIsName : Stmt := top 6
section
variable {P : Program} {w : World} {K : PySem.W.Frag} {mg : Str → Option Value} {base : Heap} {f : Addr} {fd : FuncData} {C : Addr}
section
theorem scIsName : FnScope ["value"] ["value"] (defScope sIsName) := ⟨rfl, rfl, rfl, by decide +kernel, rfl, by decide +kernel, by decide +kernel⟩
theorem ok_isName (F : Fun K "is_name" "is_name" sIsName f fd) (b : Bn mg) : FnOk P w K mg base (L2.CX P w) 1 f fd ["value"] (spD K (pureS (fun ds => ∃ d, ds = [d] ∧ okv d) fun ds => .bl (isName (ds.headD .non)))) := by
  refine fn_d F scIsName (fun ds M Φ Ψ h => ?_) (fun cdv A outer s H E hr ds M Φ Ψ h => ?_)
  · obtain ⟨_, ⟨d, rfl, _⟩, _⟩ := h
    rfl
  · obtain ⟨rfl, ⟨d, rfl, ⟨n, hn⟩, hs⟩, h⟩ := h
    replace h : Φ (.bl (isName d)) [] := h
    have hu := hr.units
    show JSs _ [some d] [] _ _
    refine jss_cons (js_if ?_)
    refine jt_w (jw_or (jt_not (jt_val (je_isi b.isinstance b.str boot_str (by decide) (je_var 0 rfl ⟨n, hn, _, rfl, ?_⟩)))))
    cases d with
    | str z =>
      refine ite_f rfl ?_
      have hz : isName (.str z) = (decide (1 ≤ (z.length : Int)) && decide ((z.length : Int) ≤ 12) && Txt.isascii z && Txt.isalnum z && Txt.islower z && Txt.isalpha ⟨#[z.cps.toList.headD 0]⟩) := rfl
      rw [hz] at h
      refine jw_or (jt_not (jt_chain (je_int (je_len b.len (je_var 0 rfl ⟨_, .inr (.inr (.inl ⟨z, rfl, hs z rfl, rfl⟩)), opd_leI ⟨_, rfl, ?_⟩⟩)))))
      refine ite_2 (fun c1 => je_int (opd_leI ⟨_, rfl, ?_⟩)) fun c1 => ?_
      · rw [c1] at h
        refine ite_2 (fun c2 => ?_) fun c2 => ?_
        · refine ite_t rfl (jss_one (js_ret (je_bl ?_)))
          rw [Bool.not_eq_true'] at c2
          rw [c2] at h
          exact h
        · rw [Bool.not_eq_false'] at c2
          rw [c2] at h
          refine jw_or1 (jt_not (jt_val (je_m0 PySem.F.plainAttrs_str PySem.F.slot_str_isascii PySem.F.type_str_isascii (je_var 0 rfl ⟨.inl ⟨rfl, z, rfl⟩, md_isascii ⟨_, rfl, ?_⟩⟩))))
          refine ite_2 (fun c3 => ?_) fun c3 => ?_
          · refine jss_one (js_ret (je_bl ?_))
            rw [Bool.not_eq_true'] at c3
            rw [c3] at h
            exact h
          · rw [Bool.not_eq_false'] at c3
            rw [c3] at h
            refine jss_nil (jss_one (js_ret ?_))
            refine je_and (je_m0 PySem.F.plainAttrs_str PySem.F.slot_str_isalnum PySem.F.type_str_isalnum (je_var 0 rfl ⟨.inl ⟨rfl, z, rfl⟩, md_isalnum ⟨_, rfl, ?_⟩⟩))
            refine ite_2 (fun c4 => ?_) fun c4 => ?_
            · rw [c4] at h
              refine je_and (je_m0 PySem.F.plainAttrs_str PySem.F.slot_str_islower PySem.F.type_str_islower (je_var 0 rfl ⟨.inl ⟨rfl, z, rfl⟩, md_islower ⟨_, rfl, ?_⟩⟩))
              refine ite_2 (fun c5 => ?_) fun c5 => ?_
              · rw [c5] at h
                refine je_one (je_m0 PySem.F.plainAttrs_str PySem.F.slot_str_isalpha PySem.F.type_str_isalpha (je_ixS (je_var 0 rfl (je_int ⟨z, 0, z.cps.toList.headD 0, rfl, rfl, hs z rfl, ?_, .inl ⟨rfl, _, rfl⟩, md_isalpha ?_⟩))))
                · exact at_head z (of_decide_eq_true c1)
                · simpa using h
              · rw [c5] at h
                simpa using h
            · rw [c4] at h
              simpa using h
      · rw [c1] at h
        refine ite_t rfl (ite_t rfl (jss_one (js_ret (je_bl ?_))))
        exact h
    | _ =>
      exact ite_t rfl (ite_t rfl (jss_one (js_ret (je_bl h))))
end
end
end DN
end

section
set_option Elab.async false
set_option linter.all false
set_option maxRecDepth 100000
set_option maxHeartbeats 4000000
set_option pp.maxSteps 700
set_option hygiene false
open PySem PyProof.Rows L2 DL
namespace DN
open PySem PySem.Spec PyProof.Rows L2 DL TL
abbrev sPen : Stmt := top 24
abbrev sDraw : Stmt := top 25
section
variable {P : Program} {w : World} {K : PySem.W.Frag} {mg : Str → Option Value} {base : Heap} {f : Addr} {fd : FuncData} {C : Addr}
section
theorem scPen : FnScope ["script", "fold", "cell"] ["script"] (defScope sPen) := ⟨rfl, rfl, rfl, by decide +kernel, rfl, by decide +kernel, by decide +kernel⟩
theorem ok_pen (F : Fun K "_law_pen" "_law_pen" sPen f fd) (b : Bn mg) : FnOk P w K mg base (L2.CX P w) 1 f fd ["script"] (spPen K) := by
  refine F.okX scPen (fun vs H Q E h => ?_) (fun cdv A outer s H vs Q E hr h => ?_)
  · obtain ⟨a, ns, rfl, _⟩ := h
    rfl
  · obtain ⟨a, ns, rfl, hS, q⟩ := h
    have pv : ∀ {X : Cx} (i : Nat) {x : Str} {p : Pos} (hN : X.N[i]? = some x) (hv : Vis X.env.scope x) (hd : (x == ("__debug__" : Str)) = false) (hcd : (x == ("__classdict__" : Str)) = false), PE X (.Name x p) (tVar i) := fun i _ _ hN hv hd hcd => pe_var hN hv hd hcd
    refine ⟨_, pss_cons (ps_set (i := 1) scPen.nd rfl (Or.inl rfl) pe_int) (pss_cons (ps_for (passes_of rfl) rfl (pi_list (pe_var (i := 0) rfl (Or.inl rfl) (by decide) (by decide))) (pg_name (i := 2) scPen.nd rfl (Or.inl rfl))
      (pss_one (ps_set (i := 1) scPen.nd rfl (Or.inl rfl) (pe_op op_mod (pe_callTy call_int1 rfl b.int boot_int (pa_cons (pe_op op_add (pe_op op_mul (pe_var (i := 1) rfl (Or.inl rfl) (by decide) (by decide)) pe_int) (pe_var (i := 2) rfl (Or.inl rfl) (by decide) (by decide))) pa_nil)) pe_int))))
      (pss_one (ps_ret (pe_disp (pps_cons pe_str (pe_callTy call_list_of rfl b.list boot_list (pa_cons (pe_var (i := 0) rfl (Or.inl rfl) (by decide) (by decide)) pa_nil)) (pps_cons pe_str pe_int (pps_cons pe_str pe_int (pps_cons pe_str pe_int (pps_cons pe_str (pe_var (i := 1) rfl (Or.inl rfl) (by decide) (by decide)) pps_nil))))) rfl rfl (by simp) (by show 5 ≤ 15; decide))))), ?_⟩
    refine ⟨_, rfl, a, rfl, ⟨_, hS⟩, for_list (K := K) (a := a) (xs := ns.map V.int) (fun i σ H' => ∃ (fo : Int) (v : Option V), σ = [some (.ref a), some (.int fo), v] ∧ 0 ≤ fo ∧ fo < 3000000000 ∧ H' = H) ⟨13, none, rfl, by decide, by decide, rfl⟩ (fun i σ H' _ ⟨_, _, _, _, _, e⟩ => by rw [e]; exact hS) ?_ ?_⟩
    · rintro i y σ H' hi ⟨fo, v, rfl, f0, f1, rfl⟩
      obtain ⟨z, rfl⟩ : ∃ z, y = V.int z := by
        rw [List.getElem?_map] at hi
        cases e : ns[i]? with
        | none => rw [e] at hi; cases hi
        | some z => rw [e] at hi; exact ⟨z, (Option.some.inj hi).symm⟩
      refine ⟨_, rfl, _, _, rfl, rfl, .inl ⟨by omega, by omega⟩, _, rfl, _, _, rfl, rfl, .inl ⟨_, rfl, _, _, rfl, rfl, by show (0 : Int) < 1000000271; decide, ?_⟩⟩
      exact ⟨_, _, rfl, Int.emod_nonneg _ (by decide), by have := Int.emod_lt_of_pos (fo * 103 + z) (by decide : (0 : Int) < 1000000271); omega, rfl⟩
    · rintro σ H' ⟨fo, v, rfl, f0, f1, rfl⟩
      intro p hp
      refine ⟨_, rfl, a, _, rfl, .inl ((same_upd hp).seq hS), fun c hc => ?_⟩
      have npc : p ≠ c := fun e => by rw [e, upd_same] at hc; cases hc
      have hc0 : H' c = none := by rw [upd_ne (Ne.symm npc)] at hc; exact hc
      refine ⟨_, rfl, by rw [upd_ne npc, upd_same], penK c fo, rfl, by show 5 ≤ 15; decide, ?_⟩
      refine q _ p c fo f0 f1 hp hc0 (fun b o e => ?_) upd_same ?_
      · have n1 := ne_of_none e hp
        have n2 := ne_of_none e hc0
        rw [upd_ne n1, upd_ne n2, upd_ne n1]
        exact e
      · rw [upd_ne (Ne.symm npc), upd_same]
end
section
local macro_rules | `(tactic| walk_at "jgo") => `(tactic| repeat' (first | ((with_reducible show JE _ _ _ _ _ _); first | ((with_reducible show JE _ _ _ (.Constant _ _ _) _ _); first | with_reducible refine je_int ?_ | with_reducible refine je_str ?_ | with_reducible refine je_bl ?_ | with_reducible refine je_non ?_) | ((with_reducible show JE _ _ _ (.Name _ _) _ _); first | ((with_reducible show JE _ _ _ (.Name (Str.ofString "pen") _) _ _); refine je_var 0 rfl ?_) | ((with_reducible show JE _ _ _ (.Name (Str.ofString "many") _) _ _); refine je_var 1 rfl ?_) | ((with_reducible show JE _ _ _ (.Name (Str.ofString "cell") _) _ _); refine je_var 2 rfl ?_) | ((with_reducible show JE _ _ _ (.Name (Str.ofString "digit") _) _ _); refine je_var 3 rfl ?_) | ((with_reducible show JE _ _ _ (.Name (Str.ofString "blend") _) _ _); refine je_var 4 rfl ?_)) | ((with_reducible show JE _ _ _ (.Call (.Name _ _) _ _ _) _ _); first | ((with_reducible show JE _ _ _ (.Call (.Name (Str.ofString "isinstance") _) _ _ _) _ _); first | ((with_reducible show JE _ _ _ (.Call _ [_, .Name (Str.ofString "str") _] _ _) _ _); refine je_isi b.isinstance b.str boot_str (by decide) ?_) | ((with_reducible show JE _ _ _ (.Call _ [_, .Name (Str.ofString "int") _] _ _) _ _); refine je_isi b.isinstance b.int boot_int (by decide) ?_) | ((with_reducible show JE _ _ _ (.Call _ [_, .Name (Str.ofString "bool") _] _ _) _ _); refine je_isi b.isinstance b.bool boot_bool (by decide) ?_) | ((with_reducible show JE _ _ _ (.Call _ [_, .Name (Str.ofString "tuple") _] _ _) _ _); refine je_isi b.isinstance b.tuple boot_tuple (by decide) ?_) | ((with_reducible show JE _ _ _ (.Call _ [_, .Name (Str.ofString "list") _] _ _) _ _); refine je_isi b.isinstance b.list boot_list (by decide) ?_) | ((with_reducible show JE _ _ _ (.Call _ [_, .Name (Str.ofString "dict") _] _ _) _ _); refine je_isi b.isinstance b.dict boot_dict (by decide) ?_) | ((with_reducible show JE _ _ _ (.Call _ [_, .Tuple [.Name (Str.ofString "tuple") _, .Name (Str.ofString "list") _] _ _] _ _) _ _); refine je_isiP b.isinstance b.tuple boot_tuple b.list boot_list (by decide) (by decide) ?_)) | ((with_reducible show JE _ _ _ (.Call (.Name (Str.ofString "len") _) _ _ _) _ _); refine je_len b.len ?_) | ((with_reducible show JE _ _ _ (.Call (.Name (Str.ofString "all") _) _ _ _) _ _); refine je_callB b.all boot_all ?_) | ((with_reducible show JE _ _ _ (.Call (.Name (Str.ofString "any") _) _ _ _) _ _); refine je_callB b.any boot_any ?_) | ((with_reducible show JE _ _ _ (.Call (.Name (Str.ofString "sorted") _) _ _ _) _ _); refine je_callB b.sorted boot_sorted ?_) | ((with_reducible show JE _ _ _ (.Call (.Name (Str.ofString "min") _) _ _ _) _ _); refine je_callB b.min boot_min ?_) | ((with_reducible show JE _ _ _ (.Call (.Name (Str.ofString "list") _) _ _ _) _ _); refine je_callT b.list boot_list ?_) | ((with_reducible show JE _ _ _ (.Call (.Name (Str.ofString "tuple") _) _ _ _) _ _); refine je_callT b.tuple boot_tuple ?_) | ((with_reducible show JE _ _ _ (.Call (.Name (Str.ofString "str") _) _ _ _) _ _); refine je_callT b.str boot_str ?_) | ((with_reducible show JE _ _ _ (.Call (.Name (Str.ofString "int") _) _ _ _) _ _); refine je_callT b.int boot_int ?_)) | with_reducible refine je_not ?_ | with_reducible refine je_one ?_ | with_reducible refine je_and ?_ | with_reducible refine je_or ?_ | ((with_reducible show JE _ _ _ (.Compare _ [_, _] _ _) _ _); refine je_chain ?_) | ((with_reducible show JE _ _ _ (.Compare _ [_] _ _) _ _); refine je_cmp ?_) | with_reducible refine je_op ?_ | with_reducible refine je_tup ?_ | with_reducible refine je_ifExp ?_) | ((with_reducible show Exists _); refine ⟨_, rfl, ?_⟩) | ((with_reducible show ite _ _ _); first | refine ite_t rfl ?_ | refine ite_f rfl ?_) | ((with_reducible show OpD _ _ _ _ _ _); first | with_reducible refine opd_addI ?_ | with_reducible refine opd_subI ?_ | with_reducible refine opd_ltI ?_ | with_reducible refine opd_leI ?_ | with_reducible refine opd_gtI ?_ | with_reducible refine opd_geI ?_ | with_reducible refine opd_eqI ?_ | with_reducible refine opd_neI ?_ | with_reducible refine opd_eqS ?_ | with_reducible refine opd_neS ?_ | with_reducible refine opd_eqB ?_ | with_reducible refine opd_neB ?_) | ((with_reducible show JA _ _ _ _ _ _); first | with_reducible refine ja_nil ?_ | refine ja_cons ?_) | ((with_reducible show JT _ _ _ _ _ _); first | with_reducible refine jt_not ?_ | ((with_reducible show JT _ _ _ (.BoolOp .Or _ _) _ _); with_reducible refine jt_w (jw_or ?_)) | ((with_reducible show JT _ _ _ (.BoolOp .And _ _) _ _); with_reducible refine jt_w (jw_and ?_)) | ((with_reducible show JT _ _ _ (.Compare _ [_, _] _ _) _ _); refine jt_chain ?_) | ((with_reducible show JT _ _ _ (.Compare _ [_] _ _) _ _); refine jt_cmp ?_) | ((with_reducible show JT _ _ _ (.Call _ _ _ _) _ _); refine jt_val ?_)) | ((with_reducible show JW _ _ _ _ _ _); first | with_reducible refine jw_or1 ?_ | with_reducible refine jw_and1 ?_ | with_reducible refine jw_or ?_ | with_reducible refine jw_and ?_) | ((with_reducible show JSs _ _ _ _ _); first | with_reducible refine jss_one ?_ | with_reducible refine jss_cons ?_ | with_reducible refine jss_nil ?_) | ((with_reducible show JS _ _ _ _ _); first | with_reducible refine js_if ?_ | with_reducible refine js_ret ?_ | with_reducible refine js_retN ?_ | ((with_reducible show JS _ _ _ (.Expr _ _) _); refine js_expr ?_) | ((with_reducible show JS _ _ _ (.Assign [.Name _ _] _ _) _); first | ((with_reducible show JS _ _ _ (.Assign [.Name (Str.ofString "pen") _] _ _) _); refine js_set 0 ?_ nd) | ((with_reducible show JS _ _ _ (.Assign [.Name (Str.ofString "many") _] _ _) _); refine js_set 1 ?_ nd) | ((with_reducible show JS _ _ _ (.Assign [.Name (Str.ofString "cell") _] _ _) _); refine js_set 2 ?_ nd) | ((with_reducible show JS _ _ _ (.Assign [.Name (Str.ofString "digit") _] _ _) _); refine js_set 3 ?_ nd) | ((with_reducible show JS _ _ _ (.Assign [.Name (Str.ofString "blend") _] _ _) _); refine js_set 4 ?_ nd))) | ((with_reducible show JG _ _ _ (.Name _ _) _ _); first | ((with_reducible show JG _ _ _ (.Name (Str.ofString "pen") _) _ _); refine jg_name 0 ?_ nd) | ((with_reducible show JG _ _ _ (.Name (Str.ofString "many") _) _ _); refine jg_name 1 ?_ nd) | ((with_reducible show JG _ _ _ (.Name (Str.ofString "cell") _) _ _); refine jg_name 2 ?_ nd) | ((with_reducible show JG _ _ _ (.Name (Str.ofString "digit") _) _ _); refine jg_name 3 ?_ nd) | ((with_reducible show JG _ _ _ (.Name (Str.ofString "blend") _) _ _); refine jg_name 4 ?_ nd))))
theorem scDraw : FnScope ["pen", "many", "cell", "digit", "blend"] ["pen", "many"] (defScope sDraw) := ⟨rfl, rfl, rfl, by decide +kernel, rfl, by decide +kernel, by decide +kernel⟩
theorem ok_draw (F : Fun K "_law_draw" "_law_draw" sDraw f fd) (b : Bn mg) : FnOk P w K mg base (L2.CX P w) 1 f fd ["pen", "many"] (spD K spDraw) := by
  refine fn_d F scDraw (fun ds M Φ Ψ h => ?_) (fun cdv A outer s H E hr ds M Φ Ψ h => ?_)
  · obtain ⟨p, m, n, c, rfl, _⟩ := h
    rfl
  · obtain ⟨p, m, n, c, rfl, m0, m1, rfl, ⟨ns, at', dg, ct, fo, rfl, a0, d0, c0, f0, f1, hn⟩, h⟩ := h
    have hu := hr.units
    have hu1 := u1 hr
    have nd := scDraw.nd
    show JSs _ [some (.raw (.ref p)), some (.int m), none, none, none] [(p, .dK (penD ns at' dg ct fo))] _ _
    -- pen['count'] = pen['count'] + 1
    refine jss_cons (js_pen hu1 rfl (je_op (je_pen (lk_count ..) (je_int (opd_addI ⟨rfl, ?_⟩)) hu1 rfl rfl)))
    rw [pt_count]
    show JSs _ _ [(p, .dK (penD ns at' dg (ct + 1) fo))] _ _
    -- a cell is read
    refine jss_cut (fun Γ1 M1 => ∃ (x : Option D) (at' dg fo : Int), Γ1 = [some (.raw (.ref p)), some (.int m), x, none, none] ∧ M1 = [(p, .dK (penD ns at' dg (ct + 1) fo))] ∧ 0 ≤ at' ∧ 0 ≤ dg ∧ 0 ≤ fo ∧ fo < 3000000000) (js_if ?_) ?_
    · have skip : ∃ (x : Option D) (at2 dg2 fo2 : Int), [some (D.raw (.ref p)), some (.int m), none, none, none] = [some (.raw (.ref p)), some (.int m), x, none, none] ∧ [(p, Cell.dK (penD ns at' dg (ct + 1) fo))] = [(p, .dK (penD ns at2 dg2 (ct + 1) fo2))] ∧ 0 ≤ at2 ∧ 0 ≤ dg2 ∧ 0 ≤ fo2 ∧ fo2 < 3000000000 := ⟨none, at', dg, fo, rfl, rfl, a0, d0, f0, f1⟩
      refine jt_w (jw_and (jt_cmp (je_pen (lk_digits ..) (je_int (opd_eqI ⟨_, rfl, ?_⟩)) hu1 rfl rfl)))
      refine ite_2 (fun e1 => ?_) fun e1 => ite_f rfl (jss_nil skip)
      refine jw_and1 (jt_cmp (je_pen (lk_at ..) (je_len b.len (je_pen (lk_cells ..) ⟨_, .inl ⟨_, rfl, rfl⟩, opd_ltI ⟨_, rfl, ?_⟩⟩ hu1 rfl rfl)) hu1 rfl rfl))
      refine ite_2 (fun e2 => ?_) fun e2 => jss_nil skip
      have hlt : at' < (ns.length : Int) := by
        have := of_decide_eq_true e2
        rwa [List.length_map] at this
      obtain ⟨z, hz⟩ : ∃ z, ns[at'.toNat]? = some z := ⟨_, List.getElem?_eq_getElem (by omega)⟩
      have hat : atI (ns.map D.int) at' = some (.int z) := by
        have e : at' = ((at'.toNat : Nat) : Int) := by omega
        rw [e]
        refine L2.atI_nat ?_
        rw [List.getElem?_map, hz]
        rfl
      refine jss_cons (js_set 2 (je_ixL (je_pen (lk_cells ..) (je_pen (lk_at ..) ⟨_, _, _, rfl, rfl, hat, ?_⟩ hu1 rfl rfl) hu1 rfl rfl)) nd)
      refine jss_cons (js_pen hu1 rfl (je_op (je_pen (lk_at ..) (je_int (opd_addI ⟨rfl, ?_⟩)) hu1 rfl rfl)))
      rw [pt_at]
      refine jss_one (js_if (jt_cmp (je_var 2 rfl (je_op (je_int (je_int (opd_powI ?_ (opd_geI ⟨_, rfl, ?_⟩))))))))
      · exact ⟨by decide, by decide, by decide⟩
      refine ite_2 (fun e3 => ?_) fun e3 => ?_
      · have ge := of_decide_eq_true e3
        refine jss_one (js_pen hu1 rfl (je_op (je_var 2 rfl (je_op (je_int (je_int (opd_powI ⟨by decide, by decide, by decide⟩ (opd_subI ⟨rfl, ?_⟩))))))))
        rw [pt_digits]
        exact ⟨_, _, _, _, rfl, rfl, by omega, by omega, f0, f1⟩
      · refine jss_one (js_pen hu1 rfl (je_op (je_callT b.int boot_int (ja_cons (je_op (je_op (je_pen (lk_fold ..) (je_int (opd_mulI (.inl ⟨by omega, by omega⟩) (je_var 2 rfl (opd_addI (ja_nil (cd_intI (je_int (opd_modI (by decide) ⟨rfl, ?_⟩)))))))) hu1 rfl rfl)))))))
        rw [pt_fold]
        have := Int.emod_lt_of_pos (fo * 70019 + z) (by decide : (0 : Int) < 2147483423)
        exact ⟨_, _, _, _, rfl, rfl, by omega, d0, Int.emod_nonneg _ (by decide), by omega⟩
    · rintro Γ1 M1 ⟨x, at', dg, fo, rfl, rfl, a0, d0, f0, f1⟩
      -- digits are left
      refine jss_cons (js_if (jt_cmp (je_pen (lk_digits ..) (je_int (opd_gtI ⟨_, rfl, ?_⟩)) hu1 rfl rfl)))
      refine ite_2 (fun e1 => ?_) fun e1 => jss_nil ?_
      · refine jss_cons (js_set 3 (je_op (je_callT b.int boot_int (ja_cons (je_pen (lk_digits ..) (ja_nil (cd_intI (je_var 1 rfl (opd_modI m0 ?_)))) hu1 rfl rfl)))) nd)
        refine jss_cons (js_pen hu1 rfl (je_op (je_pen (lk_digits ..) (je_var 1 rfl (opd_divI ⟨m0, m1⟩ ⟨rfl, ?_⟩)) hu1 rfl rfl)))
        rw [pt_digits]
        refine jss_one (js_ret (je_var 3 rfl ?_))
        exact h _ _ (Int.emod_nonneg _ (by omega)) (Int.emod_lt_of_pos _ m0) ⟨ns, at', _, ct + 1, fo, rfl, a0, Int.ediv_nonneg d0 (by omega), by omega, f0, f1, by omega⟩
      · refine jss_cons (js_set 4 (je_op (je_op (je_pen (lk_fold ..) (je_op (je_pen (lk_count ..) (je_int (opd_mulI (.inl ⟨by omega, by omega⟩) (opd_addI (je_int (opd_addI ?_))))) hu1 rfl rfl)) hu1 rfl rfl))) nd)
        refine jss_one (js_ret (je_op (je_op (je_callT b.int boot_int (ja_cons (je_op (je_op (je_var 4 rfl (je_int (opd_powI ?_ (je_int (opd_modI (by decide) (ja_nil (cd_intI (je_int (opd_divI ⟨by decide, by decide⟩ (je_var 1 rfl (opd_modI m0 ?_))))))))))))))))))
        · exact ⟨by decide, by decide, by omega⟩
        · exact h _ _ (Int.emod_nonneg _ (by omega)) (Int.emod_lt_of_pos _ m0) ⟨ns, at', dg, ct + 1, fo, rfl, a0, d0, by omega, f0, f1, by omega⟩
end
end
end DN
end

section
set_option Elab.async false
set_option linter.all false
set_option maxRecDepth 100000
set_option maxHeartbeats 4000000
set_option pp.maxSteps 700
set_option hygiene false
open PySem PyProof.Rows L2 DL
namespace DN
open PySem PySem.Spec PyProof.Rows L2 DL TL
abbrev sPick : Stmt := top 26
section
variable {P : Program} {w : World} {K : PySem.W.Frag} {mg : Str → Option Value} {base : Heap} {f : Addr} {fd : FuncData} {C : Addr}
section
theorem scPick : FnScope ["pen", "some"] ["pen", "some"] (defScope sPick) := ⟨rfl, rfl, rfl, by decide +kernel, rfl, by decide +kernel, by decide +kernel⟩
theorem ok_pick (F : Fun K "_law_pick" "_law_pick" sPick f fd) (b : Bn mg) (gD : GFn P w K mg base 1 "_law_draw" [] spDraw) : FnOk P w K mg base (L2.CX P w) 2 f fd ["pen", "some"] (spD K spPick) := by
  refine fn_d F scPick (fun ds M Φ Ψ h => ?_) (fun cdv A outer s H E hr ds M Φ Ψ h => ?_)
  · obtain ⟨p, xs, n, c, rfl, _⟩ := h
    rfl
  · obtain ⟨p, xs, n, c, rfl, h0, h1, rfl, hc, h⟩ := h
    show JSs _ [some (.raw (.ref p)), some (.lst xs)] [(p, c)] _ _
    have hl : 0 < xs.length := List.length_pos_iff.mpr h0
    refine jss_one (js_ret (je_ixL (je_var 1 rfl (je_call gD (hr.mono (by decide)) (ja_cons (je_var 0 rfl (ja_cons (je_len b.len (je_var 1 rfl ⟨_, .inl ⟨xs, rfl, rfl⟩, ja_nil (use_draw 0 rfl hc (by omega) (by omega) fun d c' d0 d1 hc' => ?_)⟩)))))))))
    obtain ⟨x, hx, ha, _⟩ := at_of d0 d1
    exact ⟨xs, d, x, rfl, rfl, ha, h x c' hx hc'⟩
end
section
theorem ok_pickT (F : Fun K "_law_pick" "_law_pick" sPick f fd) (b : Bn mg) (gD : GFn P w K mg base 1 "_law_draw" [] spDraw) : FnOk P w K mg base (L2.CX P w) 2 f fd ["pen", "some"] (spD K spPickT) := by
  refine fn_d F scPick (fun ds M Φ Ψ h => ?_) (fun cdv A outer s H E hr ds M Φ Ψ h => ?_)
  · obtain ⟨p, xs, n, c, rfl, _⟩ := h
    rfl
  · obtain ⟨p, xs, n, c, rfl, h0, h1, rfl, hc, h⟩ := h
    show JSs _ [some (.raw (.ref p)), some (.tup xs)] [(p, c)] _ _
    have hl : 0 < xs.length := List.length_pos_iff.mpr h0
    refine jss_one (js_ret (je_ixT (je_var 1 rfl (je_call gD (hr.mono (by decide)) (ja_cons (je_var 0 rfl (ja_cons (je_len b.len (je_var 1 rfl ⟨_, .inr (.inl ⟨xs, rfl, rfl⟩), ja_nil (use_draw 0 rfl hc (by omega) (by omega) fun d c' d0 d1 hc' => ?_)⟩)))))))))
    obtain ⟨x, hx, ha, _⟩ := at_of d0 d1
    exact ⟨xs, d, x, rfl, rfl, ha, h x c' hx hc'⟩
end
end
end DN
end

section
set_option Elab.async false
set_option linter.all false
set_option maxRecDepth 100000
set_option maxHeartbeats 4000000
set_option pp.maxSteps 700
set_option hygiene false
open PySem PyProof.Rows L2 DL
namespace DN
open PySem PySem.Spec PyProof.Rows L2 DL TL
/-- _law_pick of a text: one sign of it -/
def spPickS : DL.Spec := fun ds M Φ _ => ∃ p z n c, ds = [.raw (.ref p), .str z] ∧ 1 ≤ z.length ∧ z.length ≤ 1000000 ∧ M = [(p, c)] ∧ PenIs (n + 1) c ∧ ∀ (s : Nat) c', s ∈ z.cps.toList → PenIs n c' → Φ (.str ⟨#[s]⟩) [(p, c')]
theorem use_pickS {M : Mem} {Φ : D → Mem → Prop} {Ψ : XP} (k : Nat) {p : Addr} {c : Cell} {n : Nat} {z : Str} (hk : M[k]? = some (p, c)) (hc : PenIs (n + 1) c) (h0 : 1 ≤ z.length) (h1 : z.length ≤ 1000000) (h : ∀ (s : Nat) c', s ∈ z.cps.toList → PenIs n c' → Φ (.str ⟨#[s]⟩) (M.set k (p, c'))) : Use spPickS [.raw (.ref p), .str z] M Φ Ψ :=
  .one k p c hk ⟨p, z, n, c, rfl, h0, h1, rfl, hc, fun x c' hx hc' c'' e => by cases e; exact h x c' hx hc'⟩
section
variable {P : Program} {w : World} {K : PySem.W.Frag} {mg : Str → Option Value} {base : Heap} {f : Addr} {fd : FuncData}
theorem ok_pickS (F : Fun K "_law_pick" "_law_pick" sPick f fd) (b : Bn mg) (gD : GFn P w K mg base 1 "_law_draw" [] spDraw) : FnOk P w K mg base (L2.CX P w) 2 f fd ["pen", "some"] (spD K spPickS) := by
  refine fn_d F scPick (fun ds M Φ Ψ h => ?_) (fun cdv A outer s H E hr ds M Φ Ψ h => ?_)
  · obtain ⟨p, xs, n, c, rfl, _⟩ := h
    rfl
  · obtain ⟨p, z, n, c, rfl, h0, h1, rfl, hc, h⟩ := h
    have ez : z.length = z.cps.toList.length := by simp [Str.length]
    show JSs _ [some (.raw (.ref p)), some (.str z)] [(p, c)] _ _
    refine jss_one (js_ret (je_ixS (je_var 1 rfl (je_call gD (hr.mono (by decide)) (ja_cons (je_var 0 rfl (ja_cons (je_len b.len (je_var 1 rfl ⟨_, .inr (.inr (.inl ⟨z, rfl, h1, rfl⟩)), ja_nil (use_draw 0 rfl hc (by omega) (by omega) fun d c' d0 d1 hc' => ?_)⟩)))))))))
    obtain ⟨k, rfl⟩ := Int.eq_ofNat_of_zero_le d0
    have hk : k < z.cps.toList.length := by omega
    have ha : atI z.cps.toList (k : Nat) = some z.cps.toList[k] := by
      rw [DN.atI_nat, List.getElem?_eq_getElem hk]
    exact ⟨z, _, _, rfl, rfl, h1, ha, h _ c' (List.getElem_mem hk) hc'⟩
end
end DN
end

section
set_option Elab.async false
set_option linter.all false
set_option maxRecDepth 100000
set_option maxHeartbeats 4000000
set_option pp.maxSteps 700
set_option hygiene false
open PySem PyProof.Rows L2 DL
namespace DN
open PySem PySem.Spec PyProof.Rows L2 DL TL
/-- _law_pick of a list cell -/
def spPickC : DL.Spec := fun ds M Φ _ => ∃ p t xs n c, ds = [.raw (.ref p), .raw (.ref t)] ∧ xs ≠ [] ∧ xs.length ≤ 1000000 ∧ M = [(p, c), (t, .lst xs)] ∧ PenIs (n + 1) c ∧ ∀ x c', x ∈ xs → PenIs n c' → Φ x [(p, c'), (t, .lst xs)]
theorem use_pickC {M : Mem} {Φ : D → Mem → Prop} {Ψ : XP} (k j : Nat) (hkj : k ≠ j) {p t : Addr} {c : Cell} {n : Nat} {xs : List D} (hk : M[k]? = some (p, c)) (hj : M[j]? = some (t, .lst xs)) (hc : PenIs (n + 1) c) (h0 : xs ≠ []) (h1 : xs.length ≤ 1000000) (h : ∀ x c', x ∈ xs → PenIs n c' → Φ x ((M.set k (p, c')).set j (t, .lst xs))) : Use spPickC [.raw (.ref p), .raw (.ref t)] M Φ Ψ :=
  .many [k, j] [(p, c), (t, .lst xs)] (by simp [hk, hj]) (by simp [hkj]) ⟨p, t, xs, n, c, rfl, h0, h1, rfl, hc, fun x c' hx hc' _ => h x c' hx hc'⟩
section
variable {P : Program} {w : World} {K : PySem.W.Frag} {mg : Str → Option Value} {base : Heap} {f : Addr} {fd : FuncData}
theorem ok_pickC (F : Fun K "_law_pick" "_law_pick" sPick f fd) (b : Bn mg) (gD : GFn P w K mg base 1 "_law_draw" [] spDraw) : FnOk P w K mg base (L2.CX P w) 2 f fd ["pen", "some"] (spD K spPickC) := by
  refine fn_d F scPick (fun ds M Φ Ψ h => ?_) (fun cdv A outer s H E hr ds M Φ Ψ h => ?_)
  · obtain ⟨p, t, xs, n, c, rfl, _⟩ := h
    rfl
  · obtain ⟨p, t, xs, n, c, rfl, h0, h1, rfl, hc, h⟩ := h
    show JSs _ [some (.raw (.ref p)), some (.raw (.ref t))] [(p, c), (t, .lst xs)] _ _
    have hl : 0 < xs.length := List.length_pos_iff.mpr h0
    refine jss_one (js_ret (je_ixC 1 (je_var 1 rfl (je_call gD (hr.mono (by decide)) (ja_cons (je_var 0 rfl (ja_cons (je_len b.len (je_var 1 rfl ⟨_, .inr (.inr (.inr (.inr (.inr ⟨1, t, xs, rfl, rfl, rfl⟩)))), ja_nil (use_draw 0 rfl hc (by omega) (by omega) fun d c' d0 d1 hc' => ?_)⟩)))))))))
    obtain ⟨x, hx, ha, _⟩ := at_of d0 d1
    exact ⟨t, xs, d, x, rfl, rfl, rfl, ha, h x c' hx hc'⟩
end
end DN
end

section
set_option Elab.async false
set_option linter.all false
set_option maxRecDepth 100000
set_option maxHeartbeats 4000000
set_option pp.maxSteps 700
set_option hygiene false
open PySem PyProof.Rows L2 DL
namespace DN
open PySem PySem.Spec PyProof.Rows L2 DL TL
abbrev sShuf : Stmt := top 27
section
variable {P : Program} {w : World} {K : PySem.W.Frag} {mg : Str → Option Value} {base : Heap} {f : Addr} {fd : FuncData} {C : Addr}
section
theorem scShuf : FnScope ["pen", "some", "left", "found", "lap"] ["pen", "some"] (defScope sShuf) := ⟨rfl, rfl, rfl, by decide +kernel, rfl, by decide +kernel, by decide +kernel⟩
theorem ok_shuf (F : Fun K "_law_shuffled" "_law_shuffled" sShuf f fd) (b : Bn mg) (gD : GFn P w K mg base 1 "_law_draw" [] spDraw) : FnOk P w K mg base (L2.CX P w) 2 f fd ["pen", "some"] (spD K spShuf) := by
  refine fn_dc F scShuf (fun ds M Φ Ψ h => ?_) (fun cdv A outer s H E hr ds M Φ Ψ h => ?_)
  · obtain ⟨p, xs, n, c, rfl, _⟩ := h
    rfl
  · obtain ⟨p, xs, n, c, rfl, h1, rfl, hc, h⟩ := h
    have nd := scShuf.nd
    show JSs _ [some (.raw (.ref p)), some (.lst xs), none, none, none] [(p, c)] _ _
    refine jss_cons (js_par 2 3 (ja_cons (je_callT b.list boot_list (ja_cons (je_var 1 rfl (ja_nil (cd_listC fun l => ja_cons (je_lstC (ja_nil ⟨by decide, fun t => ja_nil ⟨_, _, rfl, ?_⟩⟩)))))))) nd)
    show JSs _ [some (.raw (.ref p)), some (.lst xs), some (.raw (.ref l)), some (.raw (.ref t)), none] [(p, c), (l, .lst xs), (t, .lst [])] _ _
    refine jss_cons (js_for (passes_of rfl) (ji_range1 b.range (je_len b.len (je_var 1 rfl ⟨_, .inl ⟨xs, rfl, rfl⟩, _, rfl, by omega, by omega, ?_⟩))))
    refine ⟨fun i Γ2 M2 => ∃ c left found lap, Γ2 = [some (.raw (.ref p)), some (.lst xs), some (.raw (.ref l)), some (.raw (.ref t)), lap] ∧ M2 = [(p, c), (l, .lst left), (t, .lst found)] ∧ (found ++ left).Perm xs ∧ found.length = i ∧ PenIs (n + left.length) c, ⟨c, xs, [], none, rfl, rfl, List.Perm.refl _, rfl, hc⟩, ?_, ?_⟩
    · rintro i x Γ2 M2 hi ⟨c, left, found, lap, rfl, rfl, hp, hf, hc⟩
      have hi' := (List.getElem?_eq_some_iff.mp hi).1
      rw [rngD_length] at hi'
      have hlen := hp.length_eq
      rw [List.length_append] at hlen
      have hl : 0 < left.length := by omega
      refine jg_name 4 ?_ nd
      refine jss_one (js_expr (je_m PySem.F.plainAttrs_list PySem.F.slot_list_append PySem.F.type_list_append (je_var 3 rfl ⟨.inr ⟨rfl, .inr ⟨2, t, found, rfl, rfl⟩⟩, ja_cons (je_m PySem.F.plainAttrs_list PySem.F.slot_list_pop PySem.F.type_list_pop (je_var 2 rfl ⟨.inr ⟨rfl, .inr ⟨1, l, left, rfl, rfl⟩⟩, ja_cons (je_call gD (hr.mono (by decide)) (ja_cons (je_var 0 rfl (ja_cons (je_len b.len (je_var 2 rfl ⟨left.length, .inr (.inr (.inr (.inr (.inr ⟨1, l, left, rfl, rfl, rfl⟩)))), ja_nil ?_⟩))))))⟩))⟩)))
      refine use_draw (n := n + left.length - 1) 0 rfl (hc.less (by omega)) (by omega) (by omega) fun d c' d0 d1 hc' => ?_
      obtain ⟨y, hy, ha, _⟩ := at_of d0 d1
      obtain ⟨j, hj, hg, hjl, _⟩ := atI_get ha
      refine ja_nil (md_popAt 1 rfl ⟨by omega, by omega⟩ hj hg (ja_nil (md_append 2 rfl (by omega) ?_)))
      refine ⟨c', left.eraseIdx j, found ++ [y], _, rfl, rfl, (pop_perm hg).trans hp, by rw [List.length_append, hf]; rfl, hc'.less ?_⟩
      rw [List.length_eraseIdx, if_pos (by omega)]
      omega
    · rintro Γ2 M2 ⟨c, left, found, lap, rfl, rfl, hp, hf, hc⟩
      rw [rngD_length] at hf
      have hlen := hp.length_eq
      rw [List.length_append] at hlen
      have hl : left = [] := List.eq_nil_of_length_eq_zero (by omega)
      subst hl
      rw [List.append_nil] at hp
      exact jss_one (js_ret (je_var 3 rfl (.inr ⟨2, t, found, by show 1 ≤ 2; decide, rfl, rfl, h found c hp hc⟩)))
end
end
end DN
end

section
set_option Elab.async false
set_option linter.all false
set_option maxRecDepth 100000
set_option maxHeartbeats 4000000
set_option pp.maxSteps 700
set_option hygiene false
open PySem PyProof.Rows L2 DL
namespace DN
open PySem PySem.Spec PyProof.Rows L2 DL TL
abbrev sName : Stmt := top 28
abbrev sNames : Stmt := top 29
section
variable {P : Program} {w : World} {K : PySem.W.Frag} {mg : Str → Option Value} {base : Heap} {f : Addr} {fd : FuncData} {C : Addr}
section
theorem scName : FnScope ["pen", "index", "word", "spot", "place"] ["pen", "index"] (defScope sName) := ⟨rfl, rfl, rfl, by decide +kernel, rfl, by decide +kernel, by decide +kernel⟩
theorem ok_name (F : Fun K "_law_name" "_law_name" sName f fd) (b : Bn mg) (gD : GFn P w K mg base 1 "_law_draw" [] spDraw) : FnOk P w K mg base (L2.CX P w) 2 f fd ["pen", "index"] (spD K spName') := by
  refine fn_d F scName (fun ds M Φ Ψ h => ?_) (fun cdv A outer s H E hr ds M Φ Ψ h => ?_)
  · obtain ⟨p, i, n, c, rfl, _⟩ := h
    rfl
  · obtain ⟨p, i, n, c, rfl, hi, rfl, hc, h⟩ := h
    have nd := scName.nd
    show JSs _ [some (.raw (.ref p)), some (.int (i : Nat)), none, none, none] [(p, c)] _ _
    refine jss_cons (js_set 2 (je_str ?_) nd)
    show JSs _ [some (.raw (.ref p)), some (.int (i : Nat)), some (.str ⟨([] : List Nat).toArray⟩), none, none] [(p, c)] _ _
    refine jss_cons (js_for (passes_of rfl) (ji_range1 b.range ?_))
    refine je_op (je_int ?_)
    refine je_call gD (hr.mono (by decide)) (ja_cons (je_var 0 rfl (ja_cons (je_int (ja_nil ?_)))))
    refine use_draw (n := n + 9) 0 rfl hc (by decide) (by decide) fun d c' d0 d1 hc' => opd_addI ⟨_, rfl, by omega, by omega, ?_⟩
    refine ⟨fun i2 Γ2 M2 => ∃ c w spot, Γ2 = [some (.raw (.ref p)), some (.int (i : Nat)), some (.str ⟨w.toArray⟩), spot, none] ∧ M2 = [(p, c)] ∧ w.length = i2 ∧ low w ∧ PenIs (n + 9 - i2) c, ⟨c', [], none, rfl, rfl, rfl, by simp [low], hc'⟩, ?_, ?_⟩
    · rintro i2 x Γ2 M2 hx ⟨c, w, spot, rfl, rfl, hw, hlow, hc⟩
      have hi2 := (List.getElem?_eq_some_iff.mp hx).1
      rw [rngD_length] at hi2
      refine jg_name 3 ?_ nd
      refine jss_one (js_set 2 ?_ nd)
      refine je_op (je_var 2 rfl (je_ixS (je_str ?_)))
      refine je_call gD (hr.mono (by decide)) (ja_cons (je_var 0 rfl (ja_cons (je_int (ja_nil ?_)))))
      refine use_draw (n := n + 9 - i2 - 1) 0 rfl (hc.less (by omega)) (by decide) (by decide) fun d2 c2 e0 e1 hc2 => ?_
      obtain ⟨k, k0, k1, ha⟩ := alph_at e0 e1
      refine ⟨alph, d2, k, rfl, rfl, by decide +kernel, ha, opd_addS (by rw [str_len]; show w.length + 1 ≤ 1000000; omega) ?_⟩
      have e : (⟨w.toArray⟩ : Str) ++ ⟨#[k]⟩ = ⟨(w ++ [k]).toArray⟩ := str_app w [k]
      rw [e]
      refine ⟨c2, w ++ [k], _, rfl, rfl, by rw [List.length_append, hw]; rfl, fun c hc => ?_, hc2.less (by omega)⟩
      rcases List.mem_append.mp hc with hc | hc
      · exact hlow c hc
      · rw [List.mem_singleton.mp hc]
        exact ⟨k0, k1⟩
    · rintro Γ2 M2 ⟨c, w, spot, rfl, rfl, hw, hlow, hc⟩
      rw [rngD_length] at hw hc
      refine jss_cons (js_set 4 ?_ nd)
      refine je_op (je_int ?_)
      refine je_call gD (hr.mono (by decide)) (ja_cons (je_var 0 rfl (ja_cons (je_len b.len (je_var 2 rfl ⟨_, .inr (.inr (.inl ⟨_, rfl, by rw [str_len]; omega, rfl⟩)), ja_nil ?_⟩)))))
      refine use_draw (n := n) 0 rfl (hc.less (by omega)) (by rw [str_len]; omega) (by rw [str_len]; omega) fun d2 c2 e0 e1 hc2 => opd_addI ?_
      rw [str_len] at e1
      obtain ⟨pl, hpl⟩ : ∃ pl : Nat, 1 + d2 = (pl : Int) := ⟨(1 + d2).toNat, by omega⟩
      rw [hpl]
      show JSs _ [some (.raw (.ref p)), some (.int (i : Nat)), some (.str ⟨w.toArray⟩), spot, some (.int (pl : Nat))] [(p, c2)] _ _
      refine jss_one (js_ret (je_op (je_op (je_slice (je_var 2 rfl (jo_none (jo_some (je_var 4 rfl ⟨_, rfl, ?_, _, rfl, ?_⟩))))))))
      · show (⟨w.toArray⟩ : Str).length ≤ _
        rw [str_len]
        omega
      · rw [cut_take w pl (by omega)]
        refine je_callT b.str boot_str (ja_cons (je_var 1 rfl (ja_nil (cd_strI ?_ ?_))))
        · have : ((i : Int)).natAbs.log2 ≤ 9 := Nat.le_trans (Nat.log2_le_self _) (by omega)
          omega
        · rw [digit_str (by omega) (by omega)]
          refine opd_addS (by rw [str_len, List.length_take]; show _ + 1 ≤ 1000000; omega) ?_
          have e : (⟨(w.take pl).toArray⟩ : Str) ++ ⟨#[48 + ((i : Int)).toNat]⟩ = ⟨(w.take pl ++ [48 + i]).toArray⟩ := str_app _ [48 + i]
          rw [e]
          refine je_slice (je_var 2 rfl (jo_some (je_var 4 rfl ⟨_, rfl, jo_none ⟨?_, _, rfl, ?_⟩⟩)))
          · show (⟨w.toArray⟩ : Str).length ≤ _
            rw [str_len]
            omega
          · rw [cut_drop w pl (by omega)]
            refine opd_addS (by rw [str_len, str_len, List.length_append, List.length_take, List.length_drop]; show _ + 1 + _ ≤ 1000000; omega) ?_
            rw [str_app]
            exact h _ c2 ⟨w, pl, by omega, by omega, by omega, hlow, by rw [List.append_assoc]; rfl⟩ hc2
end
section
theorem scNames : FnScope ["pen", "many", "index"] ["pen", "many"] (defScope sNames) := ⟨rfl, rfl, rfl, by decide +kernel, rfl, by decide +kernel, by decide +kernel⟩
theorem ok_names (F : Fun K "_law_names" "_law_names" sNames f fd) (b : Bn mg) (gS : GFn P w K mg base 2 "_law_shuffled" [] spShuf) (gN : GFn P w K mg base 2 "_law_name" [] spName') : FnOk P w K mg base (L2.CX P w) 3 f fd ["pen", "many"] (spD K spNames) := by
  refine fn_d F scNames (fun ds M Φ Ψ h => ?_) (fun cdv A outer s H E hr ds M Φ Ψ h => ?_)
  · obtain ⟨p, m, n, c, rfl, _⟩ := h
    rfl
  · obtain ⟨p, m, n, c, rfl, hm, rfl, hc, h⟩ := h
    have nd := scNames.nd
    show JSs _ [some (.raw (.ref p)), some (.int (m : Nat)), none] [(p, c)] _ _
    refine jss_one (js_ret ?_)
    refine je_call gS (hr.mono (by decide)) (ja_cons (je_var 0 rfl (ja_cons ?_)))
    refine je_lc (own := [("index", 2)]) nd blk_ok (ji_range1 b.range (je_var 1 rfl ⟨_, rfl, by omega, by omega, ?_⟩))
    have em : ((m : Int)).toNat = m := by omega
    rw [em]
    refine ⟨fun i acc M2 => ∃ c zs, M2 = [(p, c)] ∧ acc = zs.map D.str ∧ zs.length = i ∧ (∀ j z, zs[j]? = some z → NameOf j z) ∧ PenIs (n + m + 10 * (m - i)) c, ⟨c, [], rfl, rfl, rfl, by simp, hc.less (by omega)⟩, fun acc M2 hacc => ?_, fun i x acc M2 hx hacc => ?_⟩
    · obtain ⟨c, zs, rfl, rfl, hl, hz, hc⟩ := hacc
      rw [rngD_length] at hl hc
      refine ja_nil (use_shuf (n := n) 0 rfl (hc.less (by rw [List.length_map]; omega)) (by rw [List.length_map]; omega) fun ys c' hy hc' => ?_)
      exact h ys c' zs hl hz hy hc'
    · obtain ⟨c, zs, rfl, rfl, hl, hz, hc⟩ := hacc
      have hi := (List.getElem?_eq_some_iff.mp hx).1
      rw [rngD_length] at hi
      rw [rngD_get hi] at hx
      cases hx
      refine ⟨by rw [List.length_map]; omega, [2], [_], by decide, fun s H C cl fp => jc_name 2 nd, fun s H C cl fp => jts_nil (ite_t rfl fun s H C cl fp => ?_)⟩
      have e : (0 + ((i : Nat) : Int)) = ((i : Nat) : Int) := by omega
      rw [e]
      show JE _ [some (.raw (.ref p)), some (.int (m : Nat)), some (.int (i : Nat))] _ _ _ _
      refine je_call gN (hr.mono (by decide)) (ja_cons (je_var 0 rfl (ja_cons (je_var 2 rfl (ja_nil ?_)))))
      refine use_name' (n := n + m + 10 * (m - i) - 10) 0 rfl (hc.less (by omega)) (by omega) fun z c' hz' hc' => ?_
      refine ⟨c', zs ++ [z], rfl, by rw [List.map_append]; rfl, by rw [List.length_append, hl]; rfl, fun j y hj => ?_, hc'.less (by omega)⟩
      by_cases hjl : j < zs.length
      · rw [List.getElem?_append_left hjl] at hj
        exact hz j y hj
      · rw [List.getElem?_append_right (by omega)] at hj
        have ej : j - zs.length = 0 := by
          have := (List.getElem?_eq_some_iff.mp hj).1
          simp only [List.length_cons, List.length_nil] at this
          omega
        rw [ej] at hj
        cases hj
        have : j = i := by omega
        rw [this]
        exact hz'
end
end
end DN
end

section
set_option Elab.async false
set_option linter.all false
set_option maxRecDepth 100000
set_option maxHeartbeats 4000000
set_option pp.maxSteps 700
set_option hygiene false
open PySem PyProof.Rows L2 DL
namespace K28
open PySem PySem.Spec PyProof.Rows L2 DL TL DN
abbrev sIsWhole : Stmt := top 14
abbrev sIsListed : Stmt := top 15
abbrev sIsRow : Stmt := top 18
def isWhole (d lo hi : D) : Bool := match d, lo, hi with
  | .int i, .int l, .non => decide (l ≤ i)
  | .int i, .int l, .int m => decide (l ≤ i) && decide (i ≤ m)
  | _, _, _ => false
def isListed : D → Bool
  | .tup _ => true
  | .lst _ => true
  | _ => false
section
variable {P : Program} {w : World} {K : PySem.W.Frag} {mg : Str → Option Value} {base : Heap} {f : Addr} {fd : FuncData}
local macro_rules | `(tactic| walk_at "jgo") => `(tactic| repeat' (first | ((with_reducible show JE _ _ _ _ _ _); first | ((with_reducible show JE _ _ _ (.Constant _ _ _) _ _); first | with_reducible refine je_int ?_ | with_reducible refine je_str ?_ | with_reducible refine je_bl ?_ | with_reducible refine je_non ?_) | ((with_reducible show JE _ _ _ (.Name _ _) _ _); first | ((with_reducible show JE _ _ _ (.Name (Str.ofString "value") _) _ _); refine je_var 0 rfl ?_) | ((with_reducible show JE _ _ _ (.Name (Str.ofString "least") _) _ _); refine je_var 1 rfl ?_) | ((with_reducible show JE _ _ _ (.Name (Str.ofString "most") _) _ _); refine je_var 2 rfl ?_)) | ((with_reducible show JE _ _ _ (.Call (.Name _ _) _ _ _) _ _); first | ((with_reducible show JE _ _ _ (.Call (.Name (Str.ofString "isinstance") _) _ _ _) _ _); first | ((with_reducible show JE _ _ _ (.Call _ [_, .Name (Str.ofString "str") _] _ _) _ _); refine je_isi b.isinstance b.str boot_str (by decide) ?_) | ((with_reducible show JE _ _ _ (.Call _ [_, .Name (Str.ofString "int") _] _ _) _ _); refine je_isi b.isinstance b.int boot_int (by decide) ?_) | ((with_reducible show JE _ _ _ (.Call _ [_, .Name (Str.ofString "bool") _] _ _) _ _); refine je_isi b.isinstance b.bool boot_bool (by decide) ?_) | ((with_reducible show JE _ _ _ (.Call _ [_, .Name (Str.ofString "tuple") _] _ _) _ _); refine je_isi b.isinstance b.tuple boot_tuple (by decide) ?_) | ((with_reducible show JE _ _ _ (.Call _ [_, .Name (Str.ofString "list") _] _ _) _ _); refine je_isi b.isinstance b.list boot_list (by decide) ?_) | ((with_reducible show JE _ _ _ (.Call _ [_, .Name (Str.ofString "dict") _] _ _) _ _); refine je_isi b.isinstance b.dict boot_dict (by decide) ?_) | ((with_reducible show JE _ _ _ (.Call _ [_, .Tuple [.Name (Str.ofString "tuple") _, .Name (Str.ofString "list") _] _ _] _ _) _ _); refine je_isiP b.isinstance b.tuple boot_tuple b.list boot_list (by decide) (by decide) ?_)) | ((with_reducible show JE _ _ _ (.Call (.Name (Str.ofString "len") _) _ _ _) _ _); refine je_len b.len ?_) | ((with_reducible show JE _ _ _ (.Call (.Name (Str.ofString "all") _) _ _ _) _ _); refine je_callB b.all boot_all ?_) | ((with_reducible show JE _ _ _ (.Call (.Name (Str.ofString "any") _) _ _ _) _ _); refine je_callB b.any boot_any ?_) | ((with_reducible show JE _ _ _ (.Call (.Name (Str.ofString "sorted") _) _ _ _) _ _); refine je_callB b.sorted boot_sorted ?_) | ((with_reducible show JE _ _ _ (.Call (.Name (Str.ofString "min") _) _ _ _) _ _); refine je_callB b.min boot_min ?_) | ((with_reducible show JE _ _ _ (.Call (.Name (Str.ofString "list") _) _ _ _) _ _); refine je_callT b.list boot_list ?_) | ((with_reducible show JE _ _ _ (.Call (.Name (Str.ofString "tuple") _) _ _ _) _ _); refine je_callT b.tuple boot_tuple ?_) | ((with_reducible show JE _ _ _ (.Call (.Name (Str.ofString "str") _) _ _ _) _ _); refine je_callT b.str boot_str ?_) | ((with_reducible show JE _ _ _ (.Call (.Name (Str.ofString "int") _) _ _ _) _ _); refine je_callT b.int boot_int ?_)) | with_reducible refine je_not ?_ | with_reducible refine je_one ?_ | with_reducible refine je_and ?_ | with_reducible refine je_or ?_ | ((with_reducible show JE _ _ _ (.Compare _ [_, _] _ _) _ _); refine je_chain ?_) | ((with_reducible show JE _ _ _ (.Compare _ [_] _ _) _ _); refine je_cmp ?_) | with_reducible refine je_op ?_ | with_reducible refine je_tup ?_ | with_reducible refine je_ifExp ?_) | ((with_reducible show Exists _); refine ⟨_, rfl, ?_⟩) | ((with_reducible show ite _ _ _); first | refine ite_t rfl ?_ | refine ite_f rfl ?_) | ((with_reducible show OpD _ _ _ _ _ _); first | with_reducible refine opd_addI ?_ | with_reducible refine opd_subI ?_ | with_reducible refine opd_ltI ?_ | with_reducible refine opd_leI ?_ | with_reducible refine opd_gtI ?_ | with_reducible refine opd_geI ?_ | with_reducible refine opd_eqI ?_ | with_reducible refine opd_neI ?_ | with_reducible refine opd_eqS ?_ | with_reducible refine opd_neS ?_ | with_reducible refine opd_eqB ?_ | with_reducible refine opd_neB ?_) | ((with_reducible show JA _ _ _ _ _ _); first | with_reducible refine ja_nil ?_ | refine ja_cons ?_) | ((with_reducible show JT _ _ _ _ _ _); first | with_reducible refine jt_not ?_ | ((with_reducible show JT _ _ _ (.BoolOp .Or _ _) _ _); with_reducible refine jt_w (jw_or ?_)) | ((with_reducible show JT _ _ _ (.BoolOp .And _ _) _ _); with_reducible refine jt_w (jw_and ?_)) | ((with_reducible show JT _ _ _ (.Compare _ [_, _] _ _) _ _); refine jt_chain ?_) | ((with_reducible show JT _ _ _ (.Compare _ [_] _ _) _ _); refine jt_cmp ?_) | ((with_reducible show JT _ _ _ (.Call _ _ _ _) _ _); refine jt_val ?_)) | ((with_reducible show JW _ _ _ _ _ _); first | with_reducible refine jw_or1 ?_ | with_reducible refine jw_and1 ?_ | with_reducible refine jw_or ?_ | with_reducible refine jw_and ?_) | ((with_reducible show JSs _ _ _ _ _); first | with_reducible refine jss_one ?_ | with_reducible refine jss_cons ?_ | with_reducible refine jss_nil ?_) | ((with_reducible show JS _ _ _ _ _); first | with_reducible refine js_if ?_ | with_reducible refine js_ret ?_ | with_reducible refine js_retN ?_ | ((with_reducible show JS _ _ _ (.Expr _ _) _); refine js_expr ?_) | ((with_reducible show JS _ _ _ (.Assign [.Name _ _] _ _) _); first | ((with_reducible show JS _ _ _ (.Assign [.Name (Str.ofString "value") _] _ _) _); refine js_set 0 ?_ nd) | ((with_reducible show JS _ _ _ (.Assign [.Name (Str.ofString "least") _] _ _) _); refine js_set 1 ?_ nd) | ((with_reducible show JS _ _ _ (.Assign [.Name (Str.ofString "most") _] _ _) _); refine js_set 2 ?_ nd))) | ((with_reducible show JG _ _ _ (.Name _ _) _ _); first | ((with_reducible show JG _ _ _ (.Name (Str.ofString "value") _) _ _); refine jg_name 0 ?_ nd) | ((with_reducible show JG _ _ _ (.Name (Str.ofString "least") _) _ _); refine jg_name 1 ?_ nd) | ((with_reducible show JG _ _ _ (.Name (Str.ofString "most") _) _ _); refine jg_name 2 ?_ nd))))
theorem scIsWhole : FnScope ["value", "least", "most"] ["value", "least", "most"] (defScope sIsWhole) := ⟨rfl, rfl, rfl, by decide +kernel, rfl, by decide +kernel, by decide +kernel⟩
theorem ok_isWhole (F : FunD K "is_whole" "is_whole" (defArgs sIsWhole) (defBody sIsWhole) (defScope sIsWhole) [.non] [] f fd) (b : Bn mg) : FnOk P w K mg base (L2.CX P w) 1 f fd ["value", "least", "most"] (spD K (pureS (fun ds => ∃ d l hi, ds = [d, .int l, hi] ∧ okv d ∧ (hi = .non ∨ ∃ m, hi = .int m)) fun ds => .bl (isWhole (ds.getD 0 .non) (ds.getD 1 .non) (ds.getD 2 .non)))) := by
  refine fn_dD F scIsWhole (fun ds M Φ Ψ h => ?_) (fun cdv A outer s H E hr ds M Φ Ψ h => ?_)
  · obtain ⟨_, ⟨d, l, hi, rfl, _⟩, _⟩ := h
    rfl
  · obtain ⟨rfl, ⟨d, l, hi, rfl, ⟨⟨n, hn⟩, hs⟩, hm⟩, h⟩ := h
    replace h : Φ (.bl (isWhole d (.int l) hi)) [] := h
    have hu := hr.units
    have nd := scIsWhole.nd
    show JSs _ [some d, some (.int l), some hi] [] _ _
    refine jss_cons ?_
    cases d with
    | int i =>
      walk_at "jgo"
      by_cases c : i < l
      · refine ite_t (decide_eq_true c) ?_
        walk_at "jgo"
        rcases hm with rfl | ⟨m, rfl⟩
        · have e : isWhole (.int i) (.int l) .non = false := decide_eq_false (by omega)
          rw [e] at h
          exact h
        · have e : isWhole (.int i) (.int l) (.int m) = false := by
            show (decide (l ≤ i) && decide (i ≤ m)) = false
            rw [decide_eq_false (by omega), Bool.false_and]
          rw [e] at h
          exact h
      · refine ite_f (decide_eq_false c) ?_
        walk_at "jgo"
        rcases hm with rfl | ⟨m, rfl⟩
        · refine opd_isN (fun z => by simp) ?_
          walk_at "jgo"
          have e : isWhole (.int i) (.int l) .non = true := decide_eq_true (by omega)
          rw [e] at h
          exact h
        · refine opd_isN (fun z => by simp) ?_
          walk_at "jgo"
          have e : isWhole (.int i) (.int l) (.int m) = decide (i ≤ m) := by
            show (decide (l ≤ i) && decide (i ≤ m)) = decide (i ≤ m)
            rw [decide_eq_true (by omega : l ≤ i), Bool.true_and]
          rw [e] at h
          exact h
    | bl i =>
      walk_at "jgo"
      exact h
    | ins => cases hn
    | raw => cases hn
    | exc => cases hn
    | cl => cases hn
    | _ =>
      walk_at "jgo"
      exact h
end
end K28
end

section
set_option Elab.async false
set_option linter.all false
set_option maxRecDepth 100000
set_option maxHeartbeats 4000000
set_option pp.maxSteps 700
set_option hygiene false
open PySem PyProof.Rows L2 DL
namespace K28
open PySem PySem.Spec PyProof.Rows L2 DL TL DN
def MOST : Int := 10 ^ 40 - 1
noncomputable def num (d : D) : Bool := isWhole d (.int 0) (.int MOST)
noncomputable def isRow : D → Bool
  | .tup [a, b, c, d, e] => isName a && isName c && (num b && (num d && num e))
  | _ => false
def okr (d : D) : Prop := okv d ∧ ∀ xs, d = .tup xs → ∀ x ∈ xs, okv x
noncomputable def spWhole : DL.Spec := DL.pureS (fun ds => ∃ d l hi, ds = [d, .int l, hi] ∧ okv d ∧ (hi = .non ∨ ∃ m, hi = .int m)) fun ds => .bl (isWhole (ds.getD 0 .non) (ds.getD 1 .non) (ds.getD 2 .non))
def spListed : DL.Spec := DL.pureS (fun ds => ∃ d n, ds = [d] ∧ tyN d = some n) fun ds => .bl (isListed (ds.headD .non))
noncomputable def spRow : DL.Spec := DL.pureS (fun ds => ∃ d, ds = [d] ∧ okr d) fun ds => .bl (isRow (ds.headD .non))
theorem use_whole {M : Mem} {Φ : D → Mem → Prop} {Ψ : XP} {d hi : D} {l : Int} (h : okv d) (hh : hi = .non ∨ ∃ m, hi = .int m) (k : Φ (.bl (isWhole d (.int l) hi)) M) : Use spWhole [d, .int l, hi] M Φ Ψ := .none ⟨rfl, ⟨d, l, hi, rfl, h, hh⟩, k⟩
section
variable {P : Program} {w : World} {K : PySem.W.Frag} {mg : Str → Option Value} {base : Heap} {f : Addr} {fd : FuncData}
section
local macro_rules | `(tactic| walk_at "jgo") => `(tactic| repeat' (first | ((with_reducible show JE _ _ _ _ _ _); first | ((with_reducible show JE _ _ _ (.Constant _ _ _) _ _); first | with_reducible refine je_int ?_ | with_reducible refine je_str ?_ | with_reducible refine je_bl ?_ | with_reducible refine je_non ?_) | ((with_reducible show JE _ _ _ (.Name _ _) _ _); first | ((with_reducible show JE _ _ _ (.Name (Str.ofString "value") _) _ _); refine je_var 0 rfl ?_)) | ((with_reducible show JE _ _ _ (.Call (.Name _ _) _ _ _) _ _); first | ((with_reducible show JE _ _ _ (.Call (.Name (Str.ofString "isinstance") _) _ _ _) _ _); first | ((with_reducible show JE _ _ _ (.Call _ [_, .Name (Str.ofString "str") _] _ _) _ _); refine je_isi b.isinstance b.str boot_str (by decide) ?_) | ((with_reducible show JE _ _ _ (.Call _ [_, .Name (Str.ofString "int") _] _ _) _ _); refine je_isi b.isinstance b.int boot_int (by decide) ?_) | ((with_reducible show JE _ _ _ (.Call _ [_, .Name (Str.ofString "bool") _] _ _) _ _); refine je_isi b.isinstance b.bool boot_bool (by decide) ?_) | ((with_reducible show JE _ _ _ (.Call _ [_, .Name (Str.ofString "tuple") _] _ _) _ _); refine je_isi b.isinstance b.tuple boot_tuple (by decide) ?_) | ((with_reducible show JE _ _ _ (.Call _ [_, .Name (Str.ofString "list") _] _ _) _ _); refine je_isi b.isinstance b.list boot_list (by decide) ?_) | ((with_reducible show JE _ _ _ (.Call _ [_, .Name (Str.ofString "dict") _] _ _) _ _); refine je_isi b.isinstance b.dict boot_dict (by decide) ?_) | ((with_reducible show JE _ _ _ (.Call _ [_, .Tuple [.Name (Str.ofString "tuple") _, .Name (Str.ofString "list") _] _ _] _ _) _ _); refine je_isiP b.isinstance b.tuple boot_tuple b.list boot_list (by decide) (by decide) ?_)) | ((with_reducible show JE _ _ _ (.Call (.Name (Str.ofString "len") _) _ _ _) _ _); refine je_len b.len ?_) | ((with_reducible show JE _ _ _ (.Call (.Name (Str.ofString "all") _) _ _ _) _ _); refine je_callB b.all boot_all ?_) | ((with_reducible show JE _ _ _ (.Call (.Name (Str.ofString "any") _) _ _ _) _ _); refine je_callB b.any boot_any ?_) | ((with_reducible show JE _ _ _ (.Call (.Name (Str.ofString "sorted") _) _ _ _) _ _); refine je_callB b.sorted boot_sorted ?_) | ((with_reducible show JE _ _ _ (.Call (.Name (Str.ofString "min") _) _ _ _) _ _); refine je_callB b.min boot_min ?_) | ((with_reducible show JE _ _ _ (.Call (.Name (Str.ofString "list") _) _ _ _) _ _); refine je_callT b.list boot_list ?_) | ((with_reducible show JE _ _ _ (.Call (.Name (Str.ofString "tuple") _) _ _ _) _ _); refine je_callT b.tuple boot_tuple ?_) | ((with_reducible show JE _ _ _ (.Call (.Name (Str.ofString "str") _) _ _ _) _ _); refine je_callT b.str boot_str ?_) | ((with_reducible show JE _ _ _ (.Call (.Name (Str.ofString "int") _) _ _ _) _ _); refine je_callT b.int boot_int ?_)) | with_reducible refine je_not ?_ | with_reducible refine je_one ?_ | with_reducible refine je_and ?_ | with_reducible refine je_or ?_ | ((with_reducible show JE _ _ _ (.Compare _ [_, _] _ _) _ _); refine je_chain ?_) | ((with_reducible show JE _ _ _ (.Compare _ [_] _ _) _ _); refine je_cmp ?_) | with_reducible refine je_op ?_ | with_reducible refine je_tup ?_ | with_reducible refine je_ifExp ?_) | ((with_reducible show Exists _); refine ⟨_, rfl, ?_⟩) | ((with_reducible show ite _ _ _); first | refine ite_t rfl ?_ | refine ite_f rfl ?_) | ((with_reducible show OpD _ _ _ _ _ _); first | with_reducible refine opd_addI ?_ | with_reducible refine opd_subI ?_ | with_reducible refine opd_ltI ?_ | with_reducible refine opd_leI ?_ | with_reducible refine opd_gtI ?_ | with_reducible refine opd_geI ?_ | with_reducible refine opd_eqI ?_ | with_reducible refine opd_neI ?_ | with_reducible refine opd_eqS ?_ | with_reducible refine opd_neS ?_ | with_reducible refine opd_eqB ?_ | with_reducible refine opd_neB ?_) | ((with_reducible show JA _ _ _ _ _ _); first | with_reducible refine ja_nil ?_ | refine ja_cons ?_) | ((with_reducible show JT _ _ _ _ _ _); first | with_reducible refine jt_not ?_ | ((with_reducible show JT _ _ _ (.BoolOp .Or _ _) _ _); with_reducible refine jt_w (jw_or ?_)) | ((with_reducible show JT _ _ _ (.BoolOp .And _ _) _ _); with_reducible refine jt_w (jw_and ?_)) | ((with_reducible show JT _ _ _ (.Compare _ [_, _] _ _) _ _); refine jt_chain ?_) | ((with_reducible show JT _ _ _ (.Compare _ [_] _ _) _ _); refine jt_cmp ?_) | ((with_reducible show JT _ _ _ (.Call _ _ _ _) _ _); refine jt_val ?_)) | ((with_reducible show JW _ _ _ _ _ _); first | with_reducible refine jw_or1 ?_ | with_reducible refine jw_and1 ?_ | with_reducible refine jw_or ?_ | with_reducible refine jw_and ?_) | ((with_reducible show JSs _ _ _ _ _); first | with_reducible refine jss_one ?_ | with_reducible refine jss_cons ?_ | with_reducible refine jss_nil ?_) | ((with_reducible show JS _ _ _ _ _); first | with_reducible refine js_if ?_ | with_reducible refine js_ret ?_ | with_reducible refine js_retN ?_ | ((with_reducible show JS _ _ _ (.Expr _ _) _); refine js_expr ?_) | ((with_reducible show JS _ _ _ (.Assign [.Name _ _] _ _) _); first | ((with_reducible show JS _ _ _ (.Assign [.Name (Str.ofString "value") _] _ _) _); refine js_set 0 ?_ nd))) | ((with_reducible show JG _ _ _ (.Name _ _) _ _); first | ((with_reducible show JG _ _ _ (.Name (Str.ofString "value") _) _ _); refine jg_name 0 ?_ nd))))
theorem scIsListed : FnScope ["value"] ["value"] (defScope sIsListed) := ⟨rfl, rfl, rfl, by decide +kernel, rfl, by decide +kernel, by decide +kernel⟩
theorem ok_isListed (F : Fun K "is_listed" "is_listed" sIsListed f fd) (b : Bn mg) : FnOk P w K mg base (L2.CX P w) 1 f fd ["value"] (spD K spListed) := by
  refine fn_d F scIsListed (fun ds M Φ Ψ h => ?_) (fun cdv A outer s H E hr ds M Φ Ψ h => ?_)
  · obtain ⟨_, ⟨d, n, rfl, _⟩, _⟩ := h
    rfl
  · obtain ⟨rfl, ⟨d, n, rfl, hn⟩, h⟩ := h
    replace h : Φ (.bl (isListed d)) [] := h
    show JSs _ [some d] [] _ _
    refine jss_one ?_
    cases d with
    | ins => cases hn
    | raw => cases hn
    | exc => cases hn
    | cl => cases hn
    | _ =>
      walk_at "jgo"
      exact h
end
section
local macro_rules | `(tactic| walk_at "jgo") => `(tactic| repeat' (first | ((with_reducible show JE _ _ _ _ _ _); first | ((with_reducible show JE _ _ _ (.Constant _ _ _) _ _); first | with_reducible refine je_int ?_ | with_reducible refine je_str ?_ | with_reducible refine je_bl ?_ | with_reducible refine je_non ?_) | ((with_reducible show JE _ _ _ (.Name _ _) _ _); first | ((with_reducible show JE _ _ _ (.Name (Str.ofString "value") _) _ _); refine je_var 0 rfl ?_) | ((with_reducible show JE _ _ _ (.Name (Str.ofString "at") _) _ _); refine je_var 1 rfl ?_)) | ((with_reducible show JE _ _ _ (.Call (.Name _ _) _ _ _) _ _); first | ((with_reducible show JE _ _ _ (.Call (.Name (Str.ofString "isinstance") _) _ _ _) _ _); first | ((with_reducible show JE _ _ _ (.Call _ [_, .Name (Str.ofString "str") _] _ _) _ _); refine je_isi b.isinstance b.str boot_str (by decide) ?_) | ((with_reducible show JE _ _ _ (.Call _ [_, .Name (Str.ofString "int") _] _ _) _ _); refine je_isi b.isinstance b.int boot_int (by decide) ?_) | ((with_reducible show JE _ _ _ (.Call _ [_, .Name (Str.ofString "bool") _] _ _) _ _); refine je_isi b.isinstance b.bool boot_bool (by decide) ?_) | ((with_reducible show JE _ _ _ (.Call _ [_, .Name (Str.ofString "tuple") _] _ _) _ _); refine je_isi b.isinstance b.tuple boot_tuple (by decide) ?_) | ((with_reducible show JE _ _ _ (.Call _ [_, .Name (Str.ofString "list") _] _ _) _ _); refine je_isi b.isinstance b.list boot_list (by decide) ?_) | ((with_reducible show JE _ _ _ (.Call _ [_, .Name (Str.ofString "dict") _] _ _) _ _); refine je_isi b.isinstance b.dict boot_dict (by decide) ?_) | ((with_reducible show JE _ _ _ (.Call _ [_, .Tuple [.Name (Str.ofString "tuple") _, .Name (Str.ofString "list") _] _ _] _ _) _ _); refine je_isiP b.isinstance b.tuple boot_tuple b.list boot_list (by decide) (by decide) ?_)) | ((with_reducible show JE _ _ _ (.Call (.Name (Str.ofString "len") _) _ _ _) _ _); refine je_len b.len ?_) | ((with_reducible show JE _ _ _ (.Call (.Name (Str.ofString "all") _) _ _ _) _ _); refine je_callB b.all boot_all ?_) | ((with_reducible show JE _ _ _ (.Call (.Name (Str.ofString "any") _) _ _ _) _ _); refine je_callB b.any boot_any ?_) | ((with_reducible show JE _ _ _ (.Call (.Name (Str.ofString "sorted") _) _ _ _) _ _); refine je_callB b.sorted boot_sorted ?_) | ((with_reducible show JE _ _ _ (.Call (.Name (Str.ofString "min") _) _ _ _) _ _); refine je_callB b.min boot_min ?_) | ((with_reducible show JE _ _ _ (.Call (.Name (Str.ofString "list") _) _ _ _) _ _); refine je_callT b.list boot_list ?_) | ((with_reducible show JE _ _ _ (.Call (.Name (Str.ofString "tuple") _) _ _ _) _ _); refine je_callT b.tuple boot_tuple ?_) | ((with_reducible show JE _ _ _ (.Call (.Name (Str.ofString "str") _) _ _ _) _ _); refine je_callT b.str boot_str ?_) | ((with_reducible show JE _ _ _ (.Call (.Name (Str.ofString "int") _) _ _ _) _ _); refine je_callT b.int boot_int ?_) | ((with_reducible show JE _ _ _ (.Call (.Name (Str.ofString "is_name") _) _ _ _) _ _); refine je_call gN (hr.mono (by decide)) ?_) | ((with_reducible show JE _ _ _ (.Call (.Name (Str.ofString "is_whole") _) _ _ _) _ _); refine je_call gW (hr.mono (by decide)) ?_)) | with_reducible refine je_not ?_ | with_reducible refine je_one ?_ | with_reducible refine je_and ?_ | with_reducible refine je_or ?_ | ((with_reducible show JE _ _ _ (.Compare _ [_, _] _ _) _ _); refine je_chain ?_) | ((with_reducible show JE _ _ _ (.Compare _ [_] _ _) _ _); refine je_cmp ?_) | with_reducible refine je_op ?_ | with_reducible refine je_tup ?_ | with_reducible refine je_ifExp ?_) | ((with_reducible show Exists _); refine ⟨_, rfl, ?_⟩) | ((with_reducible show ite _ _ _); first | refine ite_t rfl ?_ | refine ite_f rfl ?_) | ((with_reducible show OpD _ _ _ _ _ _); first | with_reducible refine opd_addI ?_ | with_reducible refine opd_subI ?_ | with_reducible refine opd_ltI ?_ | with_reducible refine opd_leI ?_ | with_reducible refine opd_gtI ?_ | with_reducible refine opd_geI ?_ | with_reducible refine opd_eqI ?_ | with_reducible refine opd_neI ?_ | with_reducible refine opd_eqS ?_ | with_reducible refine opd_neS ?_ | with_reducible refine opd_eqB ?_ | with_reducible refine opd_neB ?_) | ((with_reducible show JA _ _ _ _ _ _); first | with_reducible refine ja_nil ?_ | refine ja_cons ?_) | ((with_reducible show JT _ _ _ _ _ _); first | with_reducible refine jt_not ?_ | ((with_reducible show JT _ _ _ (.BoolOp .Or _ _) _ _); with_reducible refine jt_w (jw_or ?_)) | ((with_reducible show JT _ _ _ (.BoolOp .And _ _) _ _); with_reducible refine jt_w (jw_and ?_)) | ((with_reducible show JT _ _ _ (.Compare _ [_, _] _ _) _ _); refine jt_chain ?_) | ((with_reducible show JT _ _ _ (.Compare _ [_] _ _) _ _); refine jt_cmp ?_) | ((with_reducible show JT _ _ _ (.Call _ _ _ _) _ _); refine jt_val ?_)) | ((with_reducible show JW _ _ _ _ _ _); first | with_reducible refine jw_or1 ?_ | with_reducible refine jw_and1 ?_ | with_reducible refine jw_or ?_ | with_reducible refine jw_and ?_) | ((with_reducible show JSs _ _ _ _ _); first | with_reducible refine jss_one ?_ | with_reducible refine jss_cons ?_ | with_reducible refine jss_nil ?_) | ((with_reducible show JS _ _ _ _ _); first | with_reducible refine js_if ?_ | with_reducible refine js_ret ?_ | with_reducible refine js_retN ?_ | ((with_reducible show JS _ _ _ (.Expr _ _) _); refine js_expr ?_) | ((with_reducible show JS _ _ _ (.Assign [.Name _ _] _ _) _); first | ((with_reducible show JS _ _ _ (.Assign [.Name (Str.ofString "value") _] _ _) _); refine js_set 0 ?_ nd) | ((with_reducible show JS _ _ _ (.Assign [.Name (Str.ofString "at") _] _ _) _); refine js_set 1 ?_ nd))) | ((with_reducible show JG _ _ _ (.Name _ _) _ _); first | ((with_reducible show JG _ _ _ (.Name (Str.ofString "value") _) _ _); refine jg_name 0 ?_ nd) | ((with_reducible show JG _ _ _ (.Name (Str.ofString "at") _) _ _); refine jg_name 1 ?_ nd))))
theorem scIsRow : FnScope ["value", "at"] ["value"] (defScope sIsRow) := ⟨rfl, rfl, rfl, by decide +kernel, rfl, by decide +kernel, by decide +kernel⟩
theorem ok_isRow (F : Fun K "is_plan_row" "is_plan_row" sIsRow f fd) (b : Bn mg) (gN : GFn P w K mg base 1 "is_name" [] spName) (gW : GFn P w K mg base 1 "is_whole" [] spWhole) {t : Tok} (hM : mg "MOST_NUMBER" = some (.int MOST t)) : FnOk P w K mg base (L2.CX P w) 3 f fd ["value"] (spD K spRow) := by
  refine fn_d F scIsRow (fun ds M Φ Ψ h => ?_) (fun cdv A outer s H E hr ds M Φ Ψ h => ?_)
  · obtain ⟨_, ⟨d, rfl, _⟩, _⟩ := h
    rfl
  · obtain ⟨rfl, ⟨d, rfl, ⟨⟨n, hn⟩, hs⟩, hx⟩, h⟩ := h
    replace h : Φ (.bl (isRow d)) [] := h
    have hu := hr.units
    have nd := scIsRow.nd
    show JSs _ [some d, none] [] _ _
    refine jss_cons ?_
    cases d with
    | ins => cases hn
    | raw => cases hn
    | exc => cases hn
    | cl => cases hn
    | tup xs =>
      walk_at "jgo"
      refine ⟨_, .inr (.inl ⟨xs, rfl, rfl⟩), ?_⟩
      walk_at "jgo"
      by_cases hl : xs.length = 5
      · obtain ⟨a, b', c, d, e, rfl⟩ : ∃ a b c d e, xs = [a, b, c, d, e] := match xs, hl with | [a, b, c, d, e], _ => ⟨_, _, _, _, _, rfl⟩
        have ha := hx _ rfl a (by simp)
        have hb := hx _ rfl b' (by simp)
        have hc := hx _ rfl c (by simp)
        have hd := hx _ rfl d (by simp)
        have he := hx _ rfl e (by simp)
        have hr' : isRow (.tup [a, b', c, d, e]) = (isName a && isName c && (num b' && (num d && num e))) := rfl
        rw [hr'] at h
        walk_at "jgo"
        refine je_ixT ?_
        walk_at "jgo"
        refine ⟨_, _, a, rfl, rfl, rfl, ja_nil (use_name ha ?_)⟩
        walk_at "jgo"
        refine ite_2 (fun c1 => ite_t rfl ?_) fun c1 => ?_
        · walk_at "jgo"
          rw [Bool.not_eq_true'] at c1
          rw [c1] at h
          exact h
        · rw [Bool.not_eq_false'] at c1
          rw [c1] at h
          walk_at "jgo"
          refine je_ixT ?_
          walk_at "jgo"
          refine ⟨_, _, c, rfl, rfl, rfl, ja_nil (use_name hc ?_)⟩
          walk_at "jgo"
          refine ite_2 (fun c2 => ?_) fun c2 => ?_
          · walk_at "jgo"
            rw [Bool.not_eq_true'] at c2
            rw [c2] at h
            exact h
          · rw [Bool.not_eq_false'] at c2
            rw [c2] at h
            walk_at "jgo"
            refine je_lc (own := [("at", 1)]) nd blk_ok (ji_tup ?_)
            walk_at "jgo"
            refine ⟨by decide, [.int 1, .int 3, .int 4], rfl, ?_⟩
            refine lc_map (fun x => match x with | .int 1 => .bl (num b') | .int 3 => .bl (num d) | _ => .bl (num e)) (by decide) ?_ fun x hx => ?_
            · refine ja_nil (cd_all (bs := [num b', num d, num e]) rfl ?_)
              have q : ([num b', num d, num e].all id) = (num b' && (num d && num e)) := by simp
              rw [q]
              exact h
            · refine ⟨[1], [x], by decide, fun s H C cl fp => jc_name 1 nd, fun s H C cl fp => ?_⟩
              show JE _ [some (.tup [a, b', c, d, e]), some x] _ _ _ _
              walk_at "jgo"
              refine je_ixT ?_
              walk_at "jgo"
              have hx3 : x = .int 1 ∨ x = .int 3 ∨ x = .int 4 := by simpa using hx
              rcases hx3 with rfl | rfl | rfl
              · refine ⟨_, _, b', rfl, rfl, rfl, ?_⟩
                walk_at "jgo"
                exact je_glob (v := .int MOST) (d := .int MOST) hM ⟨t, rfl⟩ (fun _ => .int _) (ja_nil (use_whole hb (.inr ⟨_, rfl⟩) ⟨rfl, rfl⟩))
              · refine ⟨_, _, d, rfl, rfl, rfl, ?_⟩
                walk_at "jgo"
                exact je_glob (v := .int MOST) (d := .int MOST) hM ⟨t, rfl⟩ (fun _ => .int _) (ja_nil (use_whole hd (.inr ⟨_, rfl⟩) ⟨rfl, rfl⟩))
              · refine ⟨_, _, e, rfl, rfl, rfl, ?_⟩
                walk_at "jgo"
                exact je_glob (v := .int MOST) (d := .int MOST) hM ⟨t, rfl⟩ (fun _ => .int _) (ja_nil (use_whole he (.inr ⟨_, rfl⟩) ⟨rfl, rfl⟩))
      · refine ite_t (by simpa using fun z : (xs.length : Int) = 5 => hl (by omega)) (ite_t rfl ?_)
        walk_at "jgo"
        have e : isRow (.tup xs) = false := by
          unfold isRow
          split
          · rename_i q
            cases q
            exact absurd rfl hl
          · rfl
        rw [e] at h
        exact h
    | _ =>
      walk_at "jgo"
      exact h
end
end
end K28
end

section
set_option Elab.async false
set_option linter.all false
set_option maxRecDepth 100000
set_option maxHeartbeats 4000000
set_option pp.maxSteps 700
set_option hygiene false
open PySem PyProof.Rows L2 DL
namespace K28
open PySem PySem.Spec PyProof.Rows L2 DL TL DN
abbrev sBadInit : Stmt := inClass (top 4) 0
abbrev sInit : Stmt := inClass (top 19) 0
abbrev sEq : Stmt := inClass (top 19) 1
abbrev sLen : Stmt := inClass (top 19) 2
def key2 : D → D
  | .tup xs => .tup (xs.take 2)
  | _ => .non
def val3 : D → D
  | .tup xs => .tup (xs.drop 2)
  | _ => .non
noncomputable def seen (xs : List D) : List (D × D) := xs.foldl (fun acc r => ptD acc (key2 r) (.bl true)) []
noncomputable def told (xs : List D) : List (D × D) := xs.foldl (fun acc r => ptD acc (key2 r) (val3 r)) []
noncomputable def planOk (xs : List D) : Bool := xs.all isRow && !decide (((seen xs).length : Int) < (xs.length : Int))
noncomputable def planOf : D → Option (List D)
  | .tup xs => if planOk xs = true then some xs else none
  | .lst xs => if planOk xs = true then some xs else none
  | _ => none
noncomputable def planIns (C : Addr) (xs : List D) : List (Str × D) := putD "_told" (.dT (told (sortD xs))) (putD "rows" (.tup (sortD xs)) [])
/-- what the plan is asked to be made of -/
def okRows (rows : D) : Prop := (∃ n, tyN rows = some n) ∧ ∀ xs, rows = .tup xs ∨ rows = .lst xs → xs.length ≤ 90000 ∧ ∀ x ∈ xs, okr x
def exRow (CB : Addr) (rows : D) : Exn := (CB, [("row", rows), ("what", .str "plan")])
noncomputable def spInit (C CB : Addr) : DL.Spec := fun ds M Φ Ψ => ∃ t rows, ds = [.raw (.ref t), rows] ∧ M = [(t, .ins C [])] ∧ okRows rows ∧ (∀ xs, planOf rows = some xs → Φ .non [(t, .ins C (planIns C xs))]) ∧ (planOf rows = none → Ψ (exRow CB rows) M)
theorem planOf_of {rows : D} {xs : List D} (h : rows = .tup xs ∨ rows = .lst xs) : planOf rows = if planOk xs = true then some xs else none := by
  rcases h with rfl | rfl <;> rfl
theorem isName_str {d : D} (h : isName d = true) : ∃ a, d = .str a := by
  cases d with
  | str a => exact ⟨a, rfl⟩
  | _ => simp [isName] at h
theorem num_int {d : D} (h : num d = true) : ∃ m, d = .int m ∧ 0 ≤ m ∧ m ≤ MOST := by
  cases d with
  | int m =>
    have h : (decide ((0 : Int) ≤ m) && decide (m ≤ MOST)) = true := h
    rw [Bool.and_eq_true] at h
    exact ⟨m, rfl, of_decide_eq_true h.1, of_decide_eq_true h.2⟩
  | _ => simp [num, isWhole] at h
theorem isRow_is {x : D} (h : isRow x = true) : ∃ (a : Str) (m : Int) (c : Str) (k e : Int), x = .tup [.str a, .int m, .str c, .int k, .int e] := by
  unfold isRow at h
  split at h
  · rename_i a b c d e
    simp only [Bool.and_eq_true] at h
    obtain ⟨⟨h1, h2⟩, h3, h4, h5⟩ := h
    obtain ⟨a, rfl⟩ := isName_str h1
    obtain ⟨c, rfl⟩ := isName_str h2
    obtain ⟨b, rfl, _⟩ := num_int h3
    obtain ⟨d, rfl, _⟩ := num_int h4
    obtain ⟨e, rfl, _⟩ := num_int h5
    exact ⟨a, b, c, d, e, rfl⟩
  · cases h
theorem isRow_shape {x : D} (h : isRow x = true) : ∃ (a : Str) (m : Int) (r : List D), x = .tup (.str a :: .int m :: r) := by
  obtain ⟨a, m, c, k, e, rfl⟩ := isRow_is h
  exact ⟨a, m, _, rfl⟩
theorem slD_key {a b : D} {r : List D} : slD (.tup (a :: b :: r)) none (some 2) = some (.tup [a, b]) := by
  have e : HT.sIx (a :: b :: r).length (a :: b :: r).length (some 2) = 2 := by
    rw [show (2 : Int) = ((2 : Nat) : Int) from rfl, HT.sIx_nat]
    simp only [List.length_cons]
    omega
  show some (D.tup (DL.cutD (a :: b :: r) none (some 2))) = _
  unfold DL.cutD
  rw [e]
  rfl
theorem slD_val {a b : D} {r : List D} : slD (.tup (a :: b :: r)) (some 2) none = some (.tup r) := by
  have e : HT.sIx (a :: b :: r).length 0 (some 2) = 2 := by
    rw [show (2 : Int) = ((2 : Nat) : Int) from rfl, HT.sIx_nat]
    simp only [List.length_cons]
    omega
  show some (D.tup (DL.cutD (a :: b :: r) (some 2) none)) = _
  unfold DL.cutD
  rw [e, HT.sIx_none]
  simp
theorem rows_sort {xs : List D} (h : ∀ x ∈ xs, isRow x = true) : xs.all plain = true ∧ PySem.W.AllAlike (xs.map py) ∧ PySem.W.Sortable (xs.map py) ∧ ∀ x ∈ xs, (py x).depth ≤ 32 := by
  refine ⟨List.all_eq_true.mpr fun x hx => ?_, fun d hd e he => ?_, .inl fun d hd => ?_, fun x hx => ?_⟩
  · obtain ⟨a, m, c, k, e, rfl⟩ := isRow_is (h x hx)
    rfl
  · obtain ⟨x, hx, rfl⟩ := List.mem_map.mp hd
    obtain ⟨y, hy, rfl⟩ := List.mem_map.mp he
    obtain ⟨a, m, c, k, e, rfl⟩ := isRow_is (h x hx)
    obtain ⟨a, m, c, k, e, rfl⟩ := isRow_is (h y hy)
    rfl
  · obtain ⟨x, hx, rfl⟩ := List.mem_map.mp hd
    obtain ⟨a, m, c, k, e, rfl⟩ := isRow_is (h x hx)
    exact ⟨_, _, rfl⟩
  · obtain ⟨a, m, c, k, e, rfl⟩ := isRow_is (h x hx)
    exact (by decide : 1 ≤ 32)
theorem cd_listA {X : Cx} {M : Mem} {Φ : D → Mem → Prop} {d : D} {xs : List D} (hx : d = .tup xs ∨ d = .lst xs) (h : Φ (.lst xs) M) : CallD X (.type "list") [d] M Φ := by
  rcases hx with rfl | rfl
  · exact cd_listT h
  · exact cd_list h
theorem ptD_length (kvs : List (D × D)) (k d : D) : (ptD kvs k d).length ≤ kvs.length + 1 := by
  unfold ptD
  split
  · rw [List.length_map]
    omega
  · rw [List.length_append]
    exact Nat.le_refl _
section
variable {P : Program} {w : World} {K : PySem.W.Frag} {mg : Str → Option Value} {base : Heap} {f : Addr} {fd : FuncData}
theorem scBad : FnScope ["self", "what", "row"] ["self", "what", "row"] (defScope sBadInit) := ⟨rfl, rfl, rfl, by decide +kernel, rfl, by decide +kernel, by decide +kernel⟩
theorem ok_bad {CB : Addr} (F : Fun K "__init__" "BadRow.__init__" sBadInit f fd) (T : OexC K CB) (h1 : PySem.W.findIn K (.ref CB) "what" = some none) (h2 : PySem.W.findIn K (.ref CB) "row" = some none) : FnOk P w K mg base (L2.CX P w) 1 f fd ["self", "what", "row"] (spXi CB ["what", "row"]) :=
  ok_xi2 F scBad T h1 h2 rfl rfl rfl rfl (by decide) (by decide) (by decide) (by decide) (fun _ => rfl) (fun _ => rfl)
theorem ji_seqv {X : Cx} {Γ : Sl} {M : Mem} {Φ : List D → Mem → Prop} {Ψ : XP} {tg : Expr} {pos : Pos} (i : Nat) {x : Str} {xs : List D} {d : D} (hd : Γ[i]? = some (some d)) (hx : d = .tup xs ∨ d = .lst xs) (h : Φ xs M) (hN : X.N[i]? = some x := by rfl) (hv : Vis X.env.scope x := by first | exact Or.inl rfl | exact Or.inr (Or.inl rfl) | exact Or.inr (Or.inr rfl))
    (hdb : (x == ("__debug__" : Str)) = false := by decide) (hcd : (x == ("__classdict__" : Str)) = false := by decide) : JI X Γ M tg (.Name x pos) Φ Ψ := by
  rcases hx with rfl | rfl
  · exact ji_tup (je_var i hd ⟨xs, rfl, h⟩ hN hv hdb hcd)
  · exact ji_list (je_var i hd ⟨xs, rfl, h⟩ hN hv hdb hcd)
section
local macro_rules | `(tactic| walk_at "jgo") => `(tactic| repeat' (first | ((with_reducible show JE _ _ _ _ _ _); first | ((with_reducible show JE _ _ _ (.Constant _ _ _) _ _); first | with_reducible refine je_int ?_ | with_reducible refine je_str ?_ | with_reducible refine je_bl ?_ | with_reducible refine je_non ?_) | ((with_reducible show JE _ _ _ (.Name _ _) _ _); first | ((with_reducible show JE _ _ _ (.Name (Str.ofString "self") _) _ _); refine je_var 0 rfl ?_) | ((with_reducible show JE _ _ _ (.Name (Str.ofString "rows") _) _ _); refine je_var 1 rfl ?_) | ((with_reducible show JE _ _ _ (.Name (Str.ofString "row") _) _ _); refine je_var 2 rfl ?_)) | ((with_reducible show JE _ _ _ (.Call (.Name _ _) _ _ _) _ _); first | ((with_reducible show JE _ _ _ (.Call (.Name (Str.ofString "isinstance") _) _ _ _) _ _); first | ((with_reducible show JE _ _ _ (.Call _ [_, .Name (Str.ofString "str") _] _ _) _ _); refine je_isi b.isinstance b.str boot_str (by decide) ?_) | ((with_reducible show JE _ _ _ (.Call _ [_, .Name (Str.ofString "int") _] _ _) _ _); refine je_isi b.isinstance b.int boot_int (by decide) ?_) | ((with_reducible show JE _ _ _ (.Call _ [_, .Name (Str.ofString "bool") _] _ _) _ _); refine je_isi b.isinstance b.bool boot_bool (by decide) ?_) | ((with_reducible show JE _ _ _ (.Call _ [_, .Name (Str.ofString "tuple") _] _ _) _ _); refine je_isi b.isinstance b.tuple boot_tuple (by decide) ?_) | ((with_reducible show JE _ _ _ (.Call _ [_, .Name (Str.ofString "list") _] _ _) _ _); refine je_isi b.isinstance b.list boot_list (by decide) ?_) | ((with_reducible show JE _ _ _ (.Call _ [_, .Name (Str.ofString "dict") _] _ _) _ _); refine je_isi b.isinstance b.dict boot_dict (by decide) ?_) | ((with_reducible show JE _ _ _ (.Call _ [_, .Tuple [.Name (Str.ofString "tuple") _, .Name (Str.ofString "list") _] _ _] _ _) _ _); refine je_isiP b.isinstance b.tuple boot_tuple b.list boot_list (by decide) (by decide) ?_)) | ((with_reducible show JE _ _ _ (.Call (.Name (Str.ofString "len") _) _ _ _) _ _); refine je_len b.len ?_) | ((with_reducible show JE _ _ _ (.Call (.Name (Str.ofString "all") _) _ _ _) _ _); refine je_callB b.all boot_all ?_) | ((with_reducible show JE _ _ _ (.Call (.Name (Str.ofString "any") _) _ _ _) _ _); refine je_callB b.any boot_any ?_) | ((with_reducible show JE _ _ _ (.Call (.Name (Str.ofString "sorted") _) _ _ _) _ _); refine je_callB b.sorted boot_sorted ?_) | ((with_reducible show JE _ _ _ (.Call (.Name (Str.ofString "min") _) _ _ _) _ _); refine je_callB b.min boot_min ?_) | ((with_reducible show JE _ _ _ (.Call (.Name (Str.ofString "list") _) _ _ _) _ _); refine je_callT b.list boot_list ?_) | ((with_reducible show JE _ _ _ (.Call (.Name (Str.ofString "tuple") _) _ _ _) _ _); refine je_callT b.tuple boot_tuple ?_) | ((with_reducible show JE _ _ _ (.Call (.Name (Str.ofString "str") _) _ _ _) _ _); refine je_callT b.str boot_str ?_) | ((with_reducible show JE _ _ _ (.Call (.Name (Str.ofString "int") _) _ _ _) _ _); refine je_callT b.int boot_int ?_) | ((with_reducible show JE _ _ _ (.Call (.Name (Str.ofString "is_listed") _) _ _ _) _ _); refine je_call gL (hr.mono (by decide)) ?_) | ((with_reducible show JE _ _ _ (.Call (.Name (Str.ofString "is_plan_row") _) _ _ _) _ _); refine je_call gR (hr.mono (by decide)) ?_)) | with_reducible refine je_not ?_ | with_reducible refine je_one ?_ | with_reducible refine je_and ?_ | with_reducible refine je_or ?_ | ((with_reducible show JE _ _ _ (.Compare _ [_, _] _ _) _ _); refine je_chain ?_) | ((with_reducible show JE _ _ _ (.Compare _ [_] _ _) _ _); refine je_cmp ?_) | with_reducible refine je_op ?_ | with_reducible refine je_tup ?_ | with_reducible refine je_ifExp ?_) | ((with_reducible show Exists _); refine ⟨_, rfl, ?_⟩) | ((with_reducible show ite _ _ _); first | refine ite_t rfl ?_ | refine ite_f rfl ?_) | ((with_reducible show OpD _ _ _ _ _ _); first | with_reducible refine opd_addI ?_ | with_reducible refine opd_subI ?_ | with_reducible refine opd_ltI ?_ | with_reducible refine opd_leI ?_ | with_reducible refine opd_gtI ?_ | with_reducible refine opd_geI ?_ | with_reducible refine opd_eqI ?_ | with_reducible refine opd_neI ?_ | with_reducible refine opd_eqS ?_ | with_reducible refine opd_neS ?_ | with_reducible refine opd_eqB ?_ | with_reducible refine opd_neB ?_) | ((with_reducible show JA _ _ _ _ _ _); first | with_reducible refine ja_nil ?_ | refine ja_cons ?_) | ((with_reducible show JT _ _ _ _ _ _); first | with_reducible refine jt_not ?_ | ((with_reducible show JT _ _ _ (.BoolOp .Or _ _) _ _); with_reducible refine jt_w (jw_or ?_)) | ((with_reducible show JT _ _ _ (.BoolOp .And _ _) _ _); with_reducible refine jt_w (jw_and ?_)) | ((with_reducible show JT _ _ _ (.Compare _ [_, _] _ _) _ _); refine jt_chain ?_) | ((with_reducible show JT _ _ _ (.Compare _ [_] _ _) _ _); refine jt_cmp ?_) | ((with_reducible show JT _ _ _ (.Call _ _ _ _) _ _); refine jt_val ?_)) | ((with_reducible show JW _ _ _ _ _ _); first | with_reducible refine jw_or1 ?_ | with_reducible refine jw_and1 ?_ | with_reducible refine jw_or ?_ | with_reducible refine jw_and ?_) | ((with_reducible show JSs _ _ _ _ _); first | with_reducible refine jss_one ?_ | with_reducible refine jss_cons ?_ | with_reducible refine jss_nil ?_) | ((with_reducible show JS _ _ _ _ _); first | with_reducible refine js_if ?_ | with_reducible refine js_ret ?_ | with_reducible refine js_retN ?_ | ((with_reducible show JS _ _ _ (.Expr _ _) _); refine js_expr ?_) | ((with_reducible show JS _ _ _ (.Assign [.Name _ _] _ _) _); first | ((with_reducible show JS _ _ _ (.Assign [.Name (Str.ofString "self") _] _ _) _); refine js_set 0 ?_ nd) | ((with_reducible show JS _ _ _ (.Assign [.Name (Str.ofString "rows") _] _ _) _); refine js_set 1 ?_ nd) | ((with_reducible show JS _ _ _ (.Assign [.Name (Str.ofString "row") _] _ _) _); refine js_set 2 ?_ nd))) | ((with_reducible show JG _ _ _ (.Name _ _) _ _); first | ((with_reducible show JG _ _ _ (.Name (Str.ofString "self") _) _ _); refine jg_name 0 ?_ nd) | ((with_reducible show JG _ _ _ (.Name (Str.ofString "rows") _) _ _); refine jg_name 1 ?_ nd) | ((with_reducible show JG _ _ _ (.Name (Str.ofString "row") _) _ _); refine jg_name 2 ?_ nd))))
theorem scInit : FnScope ["self", "rows", "row"] ["self", "rows"] (defScope sInit) := ⟨rfl, rfl, rfl, by decide +kernel, rfl, by decide +kernel, by decide +kernel⟩
theorem ok_init {C CB : Addr} (F : Fun K "__init__" "Plan.__init__" sInit f fd) (b : Bn mg) (gL : GFn P w K mg base 1 "is_listed" [] spListed) (gR : GFn P w K mg base 3 "is_plan_row" [] spRow) (gB : GXc P w K mg base 1 "BadRow" CB ["what", "row"])
    (cl : Cls K C) (n1 : NoAttr K C "rows") (n2 : NoAttr K C "_told") : FnOk P w K mg base (L2.CX P w) 5 f fd ["self", "rows"] (spD K (spInit C CB)) := by
  refine fn_d F scInit (fun ds M Φ Ψ h => ?_) (fun cdv A outer s H E hr ds M Φ Ψ h => ?_)
  · obtain ⟨t, rows, rfl, _⟩ := h
    rfl
  · obtain ⟨t, rows, rfl, rfl, ⟨⟨n, hn⟩, hx⟩, hok, hbad⟩ := h
    have hu := hr.units
    have nd := scInit.nd
    show JSs _ [some (.raw (.ref t)), some rows, none] [(t, .ins C [])] _ _
    refine jss_cons ?_
    walk_at "jgo"
    refine .none ⟨rfl, ⟨rows, n, rfl, hn⟩, ?_⟩
    walk_at "jgo"
    by_cases hl : isListed rows = true
    · obtain ⟨xs, hxs⟩ : ∃ xs, rows = .tup xs ∨ rows = .lst xs := by
        cases rows with
        | tup xs => exact ⟨xs, .inl rfl⟩
        | lst xs => exact ⟨xs, .inr rfl⟩
        | _ => cases hl
      obtain ⟨hlen, hrow⟩ := hx xs hxs
      refine ite_f (by show (!isListed rows) = false; rw [hl]; rfl) ?_
      walk_at "jgo"
      refine je_lc (own := [("row", 2)]) nd blk_ok (ji_seqv 1 rfl hxs ?_)
      refine lc_map (fun x => .bl (isRow x)) (by omega) ?_ fun x hx => ?_
      · refine ja_nil ?_
        have e1 : xs.map (fun x => D.bl (isRow x)) = (xs.map isRow).map D.bl := by rw [List.map_map]; rfl
        rw [e1]
        refine cd_all rfl ?_
        have e2 : (xs.map isRow).all id = xs.all isRow := by rw [List.all_map]; rfl
        rw [e2]
        walk_at "jgo"
        refine ite_2 (fun c1 => ?_) fun c1 => ?_
        · walk_at "jgo"
          refine js_raise gB (hr.mono (by decide)) ?_
          walk_at "jgo"
          refine ⟨rfl, by show 2 ≤ 900; decide, hbad ?_⟩
          rw [Bool.not_eq_true'] at c1
          rw [planOf_of hxs]
          unfold planOk
          rw [c1]
          rfl
        · rw [Bool.not_eq_false'] at c1
          walk_at "jgo"
          refine je_dc (own := [("row", 2)]) (u1 hr) nd blk_ok (ji_seqv 1 rfl hxs ?_)
          have rowOf : ∀ x ∈ xs, ∃ (a : Str) (m : Int) (r : List D), x = .tup (.str a :: .int m :: r) := fun x hx => isRow_shape (List.all_eq_true.mp c1 x hx)
          refine ⟨fun i acc M2 => acc = seen (xs.take i) ∧ M2 = _ ∧ acc.length ≤ i, ⟨rfl, rfl, Nat.le_refl _⟩, fun acc M2 hacc => ?_, fun i x acc M2 hx hacc => ?_⟩
          · obtain ⟨h1, rfl, h2⟩ := hacc
            rw [List.take_length] at h1
            subst h1
            refine ⟨_, .inr (.inr (.inr (.inr (.inl ⟨_, rfl, rfl⟩)))), ?_⟩
            refine je_len b.len (je_var 1 rfl ⟨xs.length, by rcases hxs with rfl | rfl <;> simp, ?_⟩)
            walk_at "jgo"
            refine ite_2 (fun c2 => ?_) fun c2 => ?_
            · walk_at "jgo"
              refine js_raise gB (hr.mono (by decide)) ?_
              walk_at "jgo"
              refine ⟨rfl, by show 2 ≤ 900; decide, hbad ?_⟩
              rw [planOf_of hxs]
              unfold planOk
              rw [c1, c2]
              rfl
            · have good : planOf rows = some xs := by
                rw [planOf_of hxs]
                unfold planOk
                rw [c1, c2]
                rfl
              walk_at "jgo"
              refine js_fld 0 ?_
              walk_at "jgo"
              refine cd_listA hxs ?_
              walk_at "jgo"
              obtain ⟨q1, q2, q3, q4⟩ := rows_sort (fun x hx => List.all_eq_true.mp c1 x hx)
              refine cd_sorted hu q1 q2 q3 q4 ?_
              walk_at "jgo"
              refine cd_tuple ?_
              walk_at "jgo"
              refine ⟨t, C, [], rfl, rfl, cl, n1, by show 0 < 900; decide, ?_⟩
              walk_at "jgo"
              refine js_fld 0 ?_
              refine je_dc (own := [("row", 2)]) (u1 hr) nd blk_ok (ji_tup (je_fldC 0 ?_))
              walk_at "jgo"
              refine ⟨t, C, _, _, rfl, rfl, cl, n1, rfl, sortD xs, rfl, ?_⟩
              have rowS : ∀ x ∈ sortD xs, ∃ (a : Str) (m : Int) (r : List D), x = .tup (.str a :: .int m :: r) := fun x hx => rowOf x ((List.mergeSort_perm xs leD).mem_iff.mp hx)
              have lenS : (sortD xs).length = xs.length := (List.mergeSort_perm xs leD).length_eq
              refine ⟨fun i acc M2 => acc = told ((sortD xs).take i) ∧ M2 = _ ∧ acc.length ≤ i, ⟨rfl, rfl, Nat.le_refl _⟩, fun acc M2 hacc => ?_, fun i x acc M2 hx hacc => ?_⟩
              · obtain ⟨h1, rfl, h2⟩ := hacc
                rw [List.take_length] at h1
                subst h1
                walk_at "jgo"
                refine ⟨t, C, _, rfl, rfl, cl, n2, by show 1 < 900; decide, ?_⟩
                exact hok xs good
              · obtain ⟨rfl, rfl, h2⟩ := hacc
                have hi := (List.getElem?_eq_some_iff.mp hx).1
                refine ⟨by omega, [2], [x], by decide, fun s H C cl fp => jc_name 2 nd, fun s H C cl fp => jts_nil (ite_t rfl fun s H C cl fp => ?_)⟩
                show JE _ [some (.raw (.ref t)), some rows, some x] _ _ _ _
                obtain ⟨a, m, r, rfl⟩ := rowS x (List.mem_of_getElem? hx)
                refine je_slice ?_
                walk_at "jgo"
                refine jo_none (jo_some ?_)
                walk_at "jgo"
                refine ⟨True.intro, _, slD_key, [.inr a, .inl m], rfl, List.cons_ne_nil _ _, fun s H C cl fp => ?_⟩
                refine je_slice ?_
                walk_at "jgo"
                refine jo_some ?_
                walk_at "jgo"
                refine jo_none ⟨True.intro, _, slD_val, ?_, rfl, ?_⟩
                · unfold told
                  rw [take_next hx, List.foldl_append]
                  rfl
                · have := ptD_length (told ((sortD xs).take i)) (.tup [.str a, .int m]) (.tup r)
                  omega
          · obtain ⟨rfl, rfl, h2⟩ := hacc
            have hi := (List.getElem?_eq_some_iff.mp hx).1
            refine ⟨by omega, [2], [x], by decide, fun s H C cl fp => jc_name 2 nd, fun s H C cl fp => jts_nil (ite_t rfl fun s H C cl fp => ?_)⟩
            show JE _ [some (.raw (.ref t)), some rows, some x] _ _ _ _
            obtain ⟨a, m, r, rfl⟩ := rowOf x (List.mem_of_getElem? hx)
            refine je_slice ?_
            walk_at "jgo"
            refine jo_none (jo_some ?_)
            walk_at "jgo"
            refine ⟨True.intro, _, slD_key, [.inr a, .inl m], rfl, List.cons_ne_nil _ _, fun s H C cl fp => ?_⟩
            walk_at "jgo"
            refine ⟨?_, rfl, ?_⟩
            · unfold seen
              rw [take_next hx, List.foldl_append]
              rfl
            · have := ptD_length (seen (xs.take i)) (.tup [.str a, .int m]) (.bl true)
              omega
      · refine ⟨[2], [x], by decide, fun s H C cl fp => jc_name 2 nd, fun s H C cl fp => ?_⟩
        show JE _ [some (.raw (.ref t)), some rows, some x] _ _ _ _
        walk_at "jgo"
        exact .none ⟨rfl, ⟨x, rfl, hrow x hx⟩, rfl, rfl⟩
    · refine ite_t (by show (!isListed rows) = true; rw [Bool.not_eq_true] at hl; rw [hl]; rfl) ?_
      walk_at "jgo"
      refine js_raise gB (hr.mono (by decide)) ?_
      walk_at "jgo"
      refine ⟨rfl, by show 2 ≤ 900; decide, hbad ?_⟩
      cases rows with
      | tup xs => exact absurd rfl hl
      | lst xs => exact absurd rfl hl
      | _ => rfl
end
end
end K28
end

section
set_option Elab.async false
set_option linter.all false
set_option maxRecDepth 100000
set_option maxHeartbeats 4000000
set_option pp.maxSteps 700
set_option hygiene false
open PySem PyProof.Rows L2 DL
namespace K28
open PySem PySem.Spec PyProof.Rows L2 DL TL DN
theorem planIns_rows (C : Addr) (xs : List D) : (planIns C xs).lookup ("rows" : Str) = some (D.tup (sortD xs)) := rfl
theorem planIns_told (C : Addr) (xs : List D) : (planIns C xs).lookup ("_told" : Str) = some (D.dT (told (sortD xs))) := rfl
theorem planIns_no (C : Addr) (xs : List D) (m : Str) (h1 : m ≠ "rows") (h2 : m ≠ "_told") : (planIns C xs).lookup m = none := by
  show List.lookup m [(("rows" : Str), D.tup (sortD xs)), (("_told" : Str), D.dT (told (sortD xs)))] = none
  rw [List.lookup_cons, beq_eq_false_iff_ne.mpr h1]
  simp only
  rw [List.lookup_cons, beq_eq_false_iff_ne.mpr h2]
  rfl
def rowsOk (xs : List D) : Prop := xs.length ≤ 90000 ∧ ∀ x ∈ xs, isRow x = true
theorem asc_ok {z : Str} (h : Txt.isascii z = true) : PyData.strOk z = true := by
  unfold Txt.isascii at h
  unfold PyData.strOk
  rw [Array.all_eq_true] at *
  intro i hi
  have := h i hi
  simp only [decide_eq_true_eq] at *
  omega
theorem name_ok {z : Str} (h : isName (.str z) = true) : PyData.strOk z = true := by
  have h : (decide (1 ≤ (z.length : Int)) && decide ((z.length : Int) ≤ 12) && Txt.isascii z && Txt.isalnum z && Txt.islower z && Txt.isalpha ⟨#[z.cps.toList.headD 0]⟩) = true := h
  simp only [Bool.and_eq_true] at h
  exact asc_ok h.1.1.1.2
theorem isRow_is' {x : D} (h : isRow x = true) : ∃ (a : Str) (m : Int) (c : Str) (k e : Int), x = .tup [.str a, .int m, .str c, .int k, .int e] ∧ isName (.str a) = true ∧ isName (.str c) = true ∧ num (.int m) = true ∧ num (.int k) = true ∧ num (.int e) = true := by
  obtain ⟨a, m, c, k, e, rfl⟩ := isRow_is h
  have h : (isName (.str a) && isName (.str c) && (num (.int m) && (num (.int k) && num (.int e)))) = true := h
  simp only [Bool.and_eq_true] at h
  exact ⟨a, m, c, k, e, rfl, h.1.1, h.1.2, h.2.1, h.2.2.1, h.2.2.2⟩
theorem fit_tup {xs : List D} (h1 : ∀ x ∈ xs, plain x = true ∧ (py x).canLay0 = true ∧ (py x).depth ≤ 60) : fit (.tup xs) = true := by
  have a : ∀ ys : List D, (∀ x ∈ ys, plain x = true ∧ (py x).canLay0 = true ∧ (py x).depth ≤ 60) → plainA ys = true ∧ PyData.canLayAll0 (pyA ys) = true ∧ PyData.depthAll (pyA ys) ≤ 60 := by
    intro ys
    induction ys with
    | nil => exact fun _ => ⟨rfl, rfl, Nat.zero_le _⟩
    | cons y ys ih =>
      intro h
      obtain ⟨i1, i2, i3⟩ := ih fun x hx => h x (List.mem_cons_of_mem _ hx)
      obtain ⟨j1, j2, j3⟩ := h y List.mem_cons_self
      refine ⟨by rw [plainA, j1, i1]; rfl, by rw [pyA, PyData.canLayAll0, j2, i2]; rfl, ?_⟩
      rw [pyA, PyData.depthAll]
      omega
  obtain ⟨i1, i2, i3⟩ := a xs h1
  show (plain (.tup xs) && (PyData.canLay0 (py (.tup xs)) && decide ((py (.tup xs)).depth ≤ 64))) = true
  have e1 : plain (.tup xs) = true := i1
  have e2 : PyData.canLay0 (py (.tup xs)) = true := i2
  have e3 : (py (.tup xs)).depth ≤ 64 := by
    show PyData.depthAll (pyA xs) + 1 ≤ 64
    omega
  rw [e1, e2, decide_eq_true e3]
  rfl
theorem row_fit {x : D} (h : isRow x = true) : plain x = true ∧ (py x).canLay0 = true ∧ (py x).depth ≤ 60 := by
  obtain ⟨a, m, c, k, e, rfl, ha, hc, _⟩ := isRow_is' h
  refine ⟨rfl, ?_, (by decide : 1 ≤ 60)⟩
  show (PyData.strOk a && (true && (PyData.strOk c && (true && (true && true))))) = true
  rw [name_ok ha, name_ok hc]
  rfl
theorem sort_mem {xs : List D} {x : D} : x ∈ sortD xs ↔ x ∈ xs := (List.mergeSort_perm xs leD).mem_iff
theorem sort_length {xs : List D} : (sortD xs).length = xs.length := (List.mergeSort_perm xs leD).length_eq
theorem rows_fit {xs : List D} (h : rowsOk xs) : fit (.tup (sortD xs)) = true := fit_tup fun x hx => row_fit (h.2 x (sort_mem.mp hx))
noncomputable def spEq (C : Addr) : DL.Spec := fun ds M Φ _ => ∃ xs y, ds = [.ins C (planIns C xs), y] ∧ M = [] ∧ rowsOk xs ∧ ((∃ ys, y = .ins C (planIns C ys) ∧ rowsOk ys ∧ Φ (.bl (eqd (.tup (sortD xs)) (.tup (sortD ys)))) []) ∨ ∃ ys, y = .tup ys ∧ Φ (.bl false) [])
noncomputable def spLen (C : Addr) : DL.Spec := fun ds M Φ _ => ∃ xs, ds = [.ins C (planIns C xs)] ∧ M = [] ∧ Φ (.int (xs.length : Nat)) []
section
variable {P : Program} {w : World} {K : PySem.W.Frag} {mg : Str → Option Value} {base : Heap} {f : Addr} {fd : FuncData} {C : Addr}
section
local macro_rules | `(tactic| walk_at "jgo") => `(tactic| repeat' (first | ((with_reducible show JE _ _ _ _ _ _); first | ((with_reducible show JE _ _ _ (.Constant _ _ _) _ _); first | with_reducible refine je_int ?_ | with_reducible refine je_str ?_ | with_reducible refine je_bl ?_ | with_reducible refine je_non ?_) | ((with_reducible show JE _ _ _ (.Name _ _) _ _); first | ((with_reducible show JE _ _ _ (.Name (Str.ofString "self") _) _ _); refine je_var 0 rfl ?_) | ((with_reducible show JE _ _ _ (.Name (Str.ofString "other") _) _ _); refine je_var 1 rfl ?_)) | ((with_reducible show JE _ _ _ (.Call (.Name _ _) _ _ _) _ _); first | ((with_reducible show JE _ _ _ (.Call (.Name (Str.ofString "isinstance") _) _ _ _) _ _); first | ((with_reducible show JE _ _ _ (.Call _ [_, .Name (Str.ofString "str") _] _ _) _ _); refine je_isi b.isinstance b.str boot_str (by decide) ?_) | ((with_reducible show JE _ _ _ (.Call _ [_, .Name (Str.ofString "int") _] _ _) _ _); refine je_isi b.isinstance b.int boot_int (by decide) ?_) | ((with_reducible show JE _ _ _ (.Call _ [_, .Name (Str.ofString "bool") _] _ _) _ _); refine je_isi b.isinstance b.bool boot_bool (by decide) ?_) | ((with_reducible show JE _ _ _ (.Call _ [_, .Name (Str.ofString "tuple") _] _ _) _ _); refine je_isi b.isinstance b.tuple boot_tuple (by decide) ?_) | ((with_reducible show JE _ _ _ (.Call _ [_, .Name (Str.ofString "list") _] _ _) _ _); refine je_isi b.isinstance b.list boot_list (by decide) ?_) | ((with_reducible show JE _ _ _ (.Call _ [_, .Name (Str.ofString "dict") _] _ _) _ _); refine je_isi b.isinstance b.dict boot_dict (by decide) ?_) | ((with_reducible show JE _ _ _ (.Call _ [_, .Tuple [.Name (Str.ofString "tuple") _, .Name (Str.ofString "list") _] _ _] _ _) _ _); refine je_isiP b.isinstance b.tuple boot_tuple b.list boot_list (by decide) (by decide) ?_)) | ((with_reducible show JE _ _ _ (.Call (.Name (Str.ofString "len") _) _ _ _) _ _); refine je_len b.len ?_) | ((with_reducible show JE _ _ _ (.Call (.Name (Str.ofString "all") _) _ _ _) _ _); refine je_callB b.all boot_all ?_) | ((with_reducible show JE _ _ _ (.Call (.Name (Str.ofString "any") _) _ _ _) _ _); refine je_callB b.any boot_any ?_) | ((with_reducible show JE _ _ _ (.Call (.Name (Str.ofString "sorted") _) _ _ _) _ _); refine je_callB b.sorted boot_sorted ?_) | ((with_reducible show JE _ _ _ (.Call (.Name (Str.ofString "min") _) _ _ _) _ _); refine je_callB b.min boot_min ?_) | ((with_reducible show JE _ _ _ (.Call (.Name (Str.ofString "list") _) _ _ _) _ _); refine je_callT b.list boot_list ?_) | ((with_reducible show JE _ _ _ (.Call (.Name (Str.ofString "tuple") _) _ _ _) _ _); refine je_callT b.tuple boot_tuple ?_) | ((with_reducible show JE _ _ _ (.Call (.Name (Str.ofString "str") _) _ _ _) _ _); refine je_callT b.str boot_str ?_) | ((with_reducible show JE _ _ _ (.Call (.Name (Str.ofString "int") _) _ _ _) _ _); refine je_callT b.int boot_int ?_)) | with_reducible refine je_not ?_ | with_reducible refine je_one ?_ | with_reducible refine je_and ?_ | with_reducible refine je_or ?_ | ((with_reducible show JE _ _ _ (.Compare _ [_, _] _ _) _ _); refine je_chain ?_) | ((with_reducible show JE _ _ _ (.Compare _ [_] _ _) _ _); refine je_cmp ?_) | with_reducible refine je_op ?_ | with_reducible refine je_tup ?_ | with_reducible refine je_ifExp ?_) | ((with_reducible show Exists _); refine ⟨_, rfl, ?_⟩) | ((with_reducible show ite _ _ _); first | refine ite_t rfl ?_ | refine ite_f rfl ?_) | ((with_reducible show OpD _ _ _ _ _ _); first | with_reducible refine opd_addI ?_ | with_reducible refine opd_subI ?_ | with_reducible refine opd_ltI ?_ | with_reducible refine opd_leI ?_ | with_reducible refine opd_gtI ?_ | with_reducible refine opd_geI ?_ | with_reducible refine opd_eqI ?_ | with_reducible refine opd_neI ?_ | with_reducible refine opd_eqS ?_ | with_reducible refine opd_neS ?_ | with_reducible refine opd_eqB ?_ | with_reducible refine opd_neB ?_) | ((with_reducible show JA _ _ _ _ _ _); first | with_reducible refine ja_nil ?_ | refine ja_cons ?_) | ((with_reducible show JT _ _ _ _ _ _); first | with_reducible refine jt_not ?_ | ((with_reducible show JT _ _ _ (.BoolOp .Or _ _) _ _); with_reducible refine jt_w (jw_or ?_)) | ((with_reducible show JT _ _ _ (.BoolOp .And _ _) _ _); with_reducible refine jt_w (jw_and ?_)) | ((with_reducible show JT _ _ _ (.Compare _ [_, _] _ _) _ _); refine jt_chain ?_) | ((with_reducible show JT _ _ _ (.Compare _ [_] _ _) _ _); refine jt_cmp ?_) | ((with_reducible show JT _ _ _ (.Call _ _ _ _) _ _); refine jt_val ?_)) | ((with_reducible show JW _ _ _ _ _ _); first | with_reducible refine jw_or1 ?_ | with_reducible refine jw_and1 ?_ | with_reducible refine jw_or ?_ | with_reducible refine jw_and ?_) | ((with_reducible show JSs _ _ _ _ _); first | with_reducible refine jss_one ?_ | with_reducible refine jss_cons ?_ | with_reducible refine jss_nil ?_) | ((with_reducible show JS _ _ _ _ _); first | with_reducible refine js_if ?_ | with_reducible refine js_ret ?_ | with_reducible refine js_retN ?_ | ((with_reducible show JS _ _ _ (.Expr _ _) _); refine js_expr ?_) | ((with_reducible show JS _ _ _ (.Assign [.Name _ _] _ _) _); first | ((with_reducible show JS _ _ _ (.Assign [.Name (Str.ofString "self") _] _ _) _); refine js_set 0 ?_ nd) | ((with_reducible show JS _ _ _ (.Assign [.Name (Str.ofString "other") _] _ _) _); refine js_set 1 ?_ nd))) | ((with_reducible show JG _ _ _ (.Name _ _) _ _); first | ((with_reducible show JG _ _ _ (.Name (Str.ofString "self") _) _ _); refine jg_name 0 ?_ nd) | ((with_reducible show JG _ _ _ (.Name (Str.ofString "other") _) _ _); refine jg_name 1 ?_ nd))))
theorem scEq : FnScope ["self", "other"] ["self", "other"] (defScope sEq) := ⟨rfl, rfl, rfl, by decide +kernel, rfl, by decide +kernel, by decide +kernel⟩
theorem ok_eq (F : Fun K "__eq__" "Plan.__eq__" sEq f fd) (b : Bn mg) (cl : Cls K C) (n1 : NoAttr K C "rows") (hC : mg "Plan" = some (.ref C)) (k1 : PySem.W.kitOne K (.type "tuple") (.ref C) = some false) (ic : IsiC K C) (k2 : PySem.W.kitOne K (.ref C) (.ref C) = some true) : FnOk P w K mg base (L2.CX P w) 1 f fd ["self", "other"] (spD K (spEq C)) := by
  refine fn_d F scEq (fun ds M Φ Ψ h => ?_) (fun cdv A outer s H E hr ds M Φ Ψ h => ?_)
  · obtain ⟨xs, y, rfl, _⟩ := h
    rfl
  · obtain ⟨xs, y, rfl, rfl, hx, h⟩ := h
    have hu := hr.units
    show JSs _ [some (.ins C (planIns C xs)), some y] [] _ _
    refine jss_one ?_
    walk_at "jgo"
    refine je_isiC' b.isinstance hC ?_
    walk_at "jgo"
    rcases h with ⟨ys, rfl, hy, h⟩ | ⟨ys, rfl, h⟩
    · refine ⟨true, .inr ⟨C, _, rfl, ic, k2⟩, ?_⟩
      walk_at "jgo"
      refine je_fld ?_
      walk_at "jgo"
      refine ⟨C, _, _, rfl, cl, n1, planIns_rows C xs, ?_⟩
      refine je_fld ?_
      walk_at "jgo"
      refine ⟨C, _, _, rfl, cl, n1, planIns_rows C ys, ?_⟩
      exact opd_eqD hu (rows_fit hx) (rows_fit hy) h
    · refine ⟨false, .inl ⟨"tuple", rfl, k1⟩, ?_⟩
      walk_at "jgo"
      exact h
end
section
local macro_rules | `(tactic| walk_at "jgo") => `(tactic| repeat' (first | ((with_reducible show JE _ _ _ _ _ _); first | ((with_reducible show JE _ _ _ (.Constant _ _ _) _ _); first | with_reducible refine je_int ?_ | with_reducible refine je_str ?_ | with_reducible refine je_bl ?_ | with_reducible refine je_non ?_) | ((with_reducible show JE _ _ _ (.Name _ _) _ _); first | ((with_reducible show JE _ _ _ (.Name (Str.ofString "self") _) _ _); refine je_var 0 rfl ?_)) | ((with_reducible show JE _ _ _ (.Call (.Name _ _) _ _ _) _ _); first | ((with_reducible show JE _ _ _ (.Call (.Name (Str.ofString "isinstance") _) _ _ _) _ _); first | ((with_reducible show JE _ _ _ (.Call _ [_, .Name (Str.ofString "str") _] _ _) _ _); refine je_isi b.isinstance b.str boot_str (by decide) ?_) | ((with_reducible show JE _ _ _ (.Call _ [_, .Name (Str.ofString "int") _] _ _) _ _); refine je_isi b.isinstance b.int boot_int (by decide) ?_) | ((with_reducible show JE _ _ _ (.Call _ [_, .Name (Str.ofString "bool") _] _ _) _ _); refine je_isi b.isinstance b.bool boot_bool (by decide) ?_) | ((with_reducible show JE _ _ _ (.Call _ [_, .Name (Str.ofString "tuple") _] _ _) _ _); refine je_isi b.isinstance b.tuple boot_tuple (by decide) ?_) | ((with_reducible show JE _ _ _ (.Call _ [_, .Name (Str.ofString "list") _] _ _) _ _); refine je_isi b.isinstance b.list boot_list (by decide) ?_) | ((with_reducible show JE _ _ _ (.Call _ [_, .Name (Str.ofString "dict") _] _ _) _ _); refine je_isi b.isinstance b.dict boot_dict (by decide) ?_) | ((with_reducible show JE _ _ _ (.Call _ [_, .Tuple [.Name (Str.ofString "tuple") _, .Name (Str.ofString "list") _] _ _] _ _) _ _); refine je_isiP b.isinstance b.tuple boot_tuple b.list boot_list (by decide) (by decide) ?_)) | ((with_reducible show JE _ _ _ (.Call (.Name (Str.ofString "len") _) _ _ _) _ _); refine je_len b.len ?_) | ((with_reducible show JE _ _ _ (.Call (.Name (Str.ofString "all") _) _ _ _) _ _); refine je_callB b.all boot_all ?_) | ((with_reducible show JE _ _ _ (.Call (.Name (Str.ofString "any") _) _ _ _) _ _); refine je_callB b.any boot_any ?_) | ((with_reducible show JE _ _ _ (.Call (.Name (Str.ofString "sorted") _) _ _ _) _ _); refine je_callB b.sorted boot_sorted ?_) | ((with_reducible show JE _ _ _ (.Call (.Name (Str.ofString "min") _) _ _ _) _ _); refine je_callB b.min boot_min ?_) | ((with_reducible show JE _ _ _ (.Call (.Name (Str.ofString "list") _) _ _ _) _ _); refine je_callT b.list boot_list ?_) | ((with_reducible show JE _ _ _ (.Call (.Name (Str.ofString "tuple") _) _ _ _) _ _); refine je_callT b.tuple boot_tuple ?_) | ((with_reducible show JE _ _ _ (.Call (.Name (Str.ofString "str") _) _ _ _) _ _); refine je_callT b.str boot_str ?_) | ((with_reducible show JE _ _ _ (.Call (.Name (Str.ofString "int") _) _ _ _) _ _); refine je_callT b.int boot_int ?_)) | with_reducible refine je_not ?_ | with_reducible refine je_one ?_ | with_reducible refine je_and ?_ | with_reducible refine je_or ?_ | ((with_reducible show JE _ _ _ (.Compare _ [_, _] _ _) _ _); refine je_chain ?_) | ((with_reducible show JE _ _ _ (.Compare _ [_] _ _) _ _); refine je_cmp ?_) | with_reducible refine je_op ?_ | with_reducible refine je_tup ?_ | with_reducible refine je_ifExp ?_) | ((with_reducible show Exists _); refine ⟨_, rfl, ?_⟩) | ((with_reducible show ite _ _ _); first | refine ite_t rfl ?_ | refine ite_f rfl ?_) | ((with_reducible show OpD _ _ _ _ _ _); first | with_reducible refine opd_addI ?_ | with_reducible refine opd_subI ?_ | with_reducible refine opd_ltI ?_ | with_reducible refine opd_leI ?_ | with_reducible refine opd_gtI ?_ | with_reducible refine opd_geI ?_ | with_reducible refine opd_eqI ?_ | with_reducible refine opd_neI ?_ | with_reducible refine opd_eqS ?_ | with_reducible refine opd_neS ?_ | with_reducible refine opd_eqB ?_ | with_reducible refine opd_neB ?_) | ((with_reducible show JA _ _ _ _ _ _); first | with_reducible refine ja_nil ?_ | refine ja_cons ?_) | ((with_reducible show JT _ _ _ _ _ _); first | with_reducible refine jt_not ?_ | ((with_reducible show JT _ _ _ (.BoolOp .Or _ _) _ _); with_reducible refine jt_w (jw_or ?_)) | ((with_reducible show JT _ _ _ (.BoolOp .And _ _) _ _); with_reducible refine jt_w (jw_and ?_)) | ((with_reducible show JT _ _ _ (.Compare _ [_, _] _ _) _ _); refine jt_chain ?_) | ((with_reducible show JT _ _ _ (.Compare _ [_] _ _) _ _); refine jt_cmp ?_) | ((with_reducible show JT _ _ _ (.Call _ _ _ _) _ _); refine jt_val ?_)) | ((with_reducible show JW _ _ _ _ _ _); first | with_reducible refine jw_or1 ?_ | with_reducible refine jw_and1 ?_ | with_reducible refine jw_or ?_ | with_reducible refine jw_and ?_) | ((with_reducible show JSs _ _ _ _ _); first | with_reducible refine jss_one ?_ | with_reducible refine jss_cons ?_ | with_reducible refine jss_nil ?_) | ((with_reducible show JS _ _ _ _ _); first | with_reducible refine js_if ?_ | with_reducible refine js_ret ?_ | with_reducible refine js_retN ?_ | ((with_reducible show JS _ _ _ (.Expr _ _) _); refine js_expr ?_) | ((with_reducible show JS _ _ _ (.Assign [.Name _ _] _ _) _); first | ((with_reducible show JS _ _ _ (.Assign [.Name (Str.ofString "self") _] _ _) _); refine js_set 0 ?_ nd))) | ((with_reducible show JG _ _ _ (.Name _ _) _ _); first | ((with_reducible show JG _ _ _ (.Name (Str.ofString "self") _) _ _); refine jg_name 0 ?_ nd))))
theorem scLen : FnScope ["self"] ["self"] (defScope sLen) := ⟨rfl, rfl, rfl, by decide +kernel, rfl, by decide +kernel, by decide +kernel⟩
theorem ok_len (F : Fun K "__len__" "Plan.__len__" sLen f fd) (b : Bn mg) (cl : Cls K C) (n1 : NoAttr K C "rows") : FnOk P w K mg base (L2.CX P w) 1 f fd ["self"] (spD K (spLen C)) := by
  refine fn_d F scLen (fun ds M Φ Ψ h => ?_) (fun cdv A outer s H E hr ds M Φ Ψ h => ?_)
  · obtain ⟨xs, rfl, _⟩ := h
    rfl
  · obtain ⟨xs, rfl, rfl, h⟩ := h
    show JSs _ [some (.ins C (planIns C xs))] [] _ _
    refine jss_one ?_
    walk_at "jgo"
    refine je_fld ?_
    walk_at "jgo"
    refine ⟨C, _, _, rfl, cl, n1, planIns_rows C xs, _, .inr (.inl ⟨_, rfl, rfl⟩), ?_⟩
    rw [sort_length]
    exact h
end
section
local macro_rules | `(tactic| walk_at "jgo") => `(tactic| repeat' (first | ((with_reducible show JE _ _ _ _ _ _); first | ((with_reducible show JE _ _ _ (.Constant _ _ _) _ _); first | with_reducible refine je_int ?_ | with_reducible refine je_str ?_ | with_reducible refine je_bl ?_ | with_reducible refine je_non ?_) | ((with_reducible show JE _ _ _ (.Name _ _) _ _); first | ((with_reducible show JE _ _ _ (.Name (Str.ofString "self") _) _ _); refine je_var 0 rfl ?_) | ((with_reducible show JE _ _ _ (.Name (Str.ofString "place") _) _ _); refine je_var 1 rfl ?_) | ((with_reducible show JE _ _ _ (.Name (Str.ofString "memory") _) _ _); refine je_var 2 rfl ?_)) | ((with_reducible show JE _ _ _ (.Call (.Name _ _) _ _ _) _ _); first | ((with_reducible show JE _ _ _ (.Call (.Name (Str.ofString "isinstance") _) _ _ _) _ _); first | ((with_reducible show JE _ _ _ (.Call _ [_, .Name (Str.ofString "str") _] _ _) _ _); refine je_isi b.isinstance b.str boot_str (by decide) ?_) | ((with_reducible show JE _ _ _ (.Call _ [_, .Name (Str.ofString "int") _] _ _) _ _); refine je_isi b.isinstance b.int boot_int (by decide) ?_) | ((with_reducible show JE _ _ _ (.Call _ [_, .Name (Str.ofString "bool") _] _ _) _ _); refine je_isi b.isinstance b.bool boot_bool (by decide) ?_) | ((with_reducible show JE _ _ _ (.Call _ [_, .Name (Str.ofString "tuple") _] _ _) _ _); refine je_isi b.isinstance b.tuple boot_tuple (by decide) ?_) | ((with_reducible show JE _ _ _ (.Call _ [_, .Name (Str.ofString "list") _] _ _) _ _); refine je_isi b.isinstance b.list boot_list (by decide) ?_) | ((with_reducible show JE _ _ _ (.Call _ [_, .Name (Str.ofString "dict") _] _ _) _ _); refine je_isi b.isinstance b.dict boot_dict (by decide) ?_) | ((with_reducible show JE _ _ _ (.Call _ [_, .Tuple [.Name (Str.ofString "tuple") _, .Name (Str.ofString "list") _] _ _] _ _) _ _); refine je_isiP b.isinstance b.tuple boot_tuple b.list boot_list (by decide) (by decide) ?_)) | ((with_reducible show JE _ _ _ (.Call (.Name (Str.ofString "len") _) _ _ _) _ _); refine je_len b.len ?_) | ((with_reducible show JE _ _ _ (.Call (.Name (Str.ofString "all") _) _ _ _) _ _); refine je_callB b.all boot_all ?_) | ((with_reducible show JE _ _ _ (.Call (.Name (Str.ofString "any") _) _ _ _) _ _); refine je_callB b.any boot_any ?_) | ((with_reducible show JE _ _ _ (.Call (.Name (Str.ofString "sorted") _) _ _ _) _ _); refine je_callB b.sorted boot_sorted ?_) | ((with_reducible show JE _ _ _ (.Call (.Name (Str.ofString "min") _) _ _ _) _ _); refine je_callB b.min boot_min ?_) | ((with_reducible show JE _ _ _ (.Call (.Name (Str.ofString "list") _) _ _ _) _ _); refine je_callT b.list boot_list ?_) | ((with_reducible show JE _ _ _ (.Call (.Name (Str.ofString "tuple") _) _ _ _) _ _); refine je_callT b.tuple boot_tuple ?_) | ((with_reducible show JE _ _ _ (.Call (.Name (Str.ofString "str") _) _ _ _) _ _); refine je_callT b.str boot_str ?_) | ((with_reducible show JE _ _ _ (.Call (.Name (Str.ofString "int") _) _ _ _) _ _); refine je_callT b.int boot_int ?_) | ((with_reducible show JE _ _ _ (.Call (.Name (Str.ofString "is_name") _) _ _ _) _ _); refine je_call gN (hr.mono (by decide)) ?_) | ((with_reducible show JE _ _ _ (.Call (.Name (Str.ofString "is_whole") _) _ _ _) _ _); refine je_call gW (hr.mono (by decide)) ?_)) | with_reducible refine je_not ?_ | with_reducible refine je_one ?_ | with_reducible refine je_and ?_ | with_reducible refine je_or ?_ | ((with_reducible show JE _ _ _ (.Compare _ [_, _] _ _) _ _); refine je_chain ?_) | ((with_reducible show JE _ _ _ (.Compare _ [_] _ _) _ _); refine je_cmp ?_) | with_reducible refine je_op ?_ | with_reducible refine je_tup ?_ | with_reducible refine je_ifExp ?_) | ((with_reducible show Exists _); refine ⟨_, rfl, ?_⟩) | ((with_reducible show ite _ _ _); first | refine ite_t rfl ?_ | refine ite_f rfl ?_) | ((with_reducible show OpD _ _ _ _ _ _); first | with_reducible refine opd_addI ?_ | with_reducible refine opd_subI ?_ | with_reducible refine opd_ltI ?_ | with_reducible refine opd_leI ?_ | with_reducible refine opd_gtI ?_ | with_reducible refine opd_geI ?_ | with_reducible refine opd_eqI ?_ | with_reducible refine opd_neI ?_ | with_reducible refine opd_eqS ?_ | with_reducible refine opd_neS ?_ | with_reducible refine opd_eqB ?_ | with_reducible refine opd_neB ?_) | ((with_reducible show JA _ _ _ _ _ _); first | with_reducible refine ja_nil ?_ | refine ja_cons ?_) | ((with_reducible show JT _ _ _ _ _ _); first | with_reducible refine jt_not ?_ | ((with_reducible show JT _ _ _ (.BoolOp .Or _ _) _ _); with_reducible refine jt_w (jw_or ?_)) | ((with_reducible show JT _ _ _ (.BoolOp .And _ _) _ _); with_reducible refine jt_w (jw_and ?_)) | ((with_reducible show JT _ _ _ (.Compare _ [_, _] _ _) _ _); refine jt_chain ?_) | ((with_reducible show JT _ _ _ (.Compare _ [_] _ _) _ _); refine jt_cmp ?_) | ((with_reducible show JT _ _ _ (.Call _ _ _ _) _ _); refine jt_val ?_)) | ((with_reducible show JW _ _ _ _ _ _); first | with_reducible refine jw_or1 ?_ | with_reducible refine jw_and1 ?_ | with_reducible refine jw_or ?_ | with_reducible refine jw_and ?_) | ((with_reducible show JSs _ _ _ _ _); first | with_reducible refine jss_one ?_ | with_reducible refine jss_cons ?_ | with_reducible refine jss_nil ?_) | ((with_reducible show JS _ _ _ _ _); first | with_reducible refine js_if ?_ | with_reducible refine js_ret ?_ | with_reducible refine js_retN ?_ | ((with_reducible show JS _ _ _ (.Expr _ _) _); refine js_expr ?_) | ((with_reducible show JS _ _ _ (.Assign [.Name _ _] _ _) _); first | ((with_reducible show JS _ _ _ (.Assign [.Name (Str.ofString "self") _] _ _) _); refine js_set 0 ?_ nd) | ((with_reducible show JS _ _ _ (.Assign [.Name (Str.ofString "place") _] _ _) _); refine js_set 1 ?_ nd) | ((with_reducible show JS _ _ _ (.Assign [.Name (Str.ofString "memory") _] _ _) _); refine js_set 2 ?_ nd))) | ((with_reducible show JG _ _ _ (.Name _ _) _ _); first | ((with_reducible show JG _ _ _ (.Name (Str.ofString "self") _) _ _); refine jg_name 0 ?_ nd) | ((with_reducible show JG _ _ _ (.Name (Str.ofString "place") _) _ _); refine jg_name 1 ?_ nd) | ((with_reducible show JG _ _ _ (.Name (Str.ofString "memory") _) _ _); refine jg_name 2 ?_ nd))))
end
end
end K28
end

section
set_option Elab.async false
set_option linter.all false
set_option maxRecDepth 100000
set_option maxHeartbeats 4000000
set_option pp.maxSteps 700
set_option hygiene false
open PySem PyProof.Rows L2 DL
namespace K28
open PySem PySem.Spec PyProof.Rows L2 DL TL DN
abbrev sIsNm : Stmt := top 30
abbrev sPlanRows : Stmt := top 31
section
variable {P : Program} {w : World} {K : PySem.W.Frag} {mg : Str → Option Value} {base : Heap} {f : Addr} {fd : FuncData}
section
local macro_rules | `(tactic| walk_at "jgo") => `(tactic| repeat' (first | ((with_reducible show JE _ _ _ _ _ _); first | ((with_reducible show JE _ _ _ (.Constant _ _ _) _ _); first | with_reducible refine je_int ?_ | with_reducible refine je_str ?_ | with_reducible refine je_bl ?_ | with_reducible refine je_non ?_) | ((with_reducible show JE _ _ _ (.Name _ _) _ _); first | ((with_reducible show JE _ _ _ (.Name (Str.ofString "value") _) _ _); refine je_var 0 rfl ?_) | ((with_reducible show JE _ _ _ (.Name (Str.ofString "sign") _) _ _); refine je_var 1 rfl ?_)) | ((with_reducible show JE _ _ _ (.Call (.Name _ _) _ _ _) _ _); first | ((with_reducible show JE _ _ _ (.Call (.Name (Str.ofString "isinstance") _) _ _ _) _ _); first | ((with_reducible show JE _ _ _ (.Call _ [_, .Name (Str.ofString "str") _] _ _) _ _); refine je_isi b.isinstance b.str boot_str (by decide) ?_) | ((with_reducible show JE _ _ _ (.Call _ [_, .Name (Str.ofString "int") _] _ _) _ _); refine je_isi b.isinstance b.int boot_int (by decide) ?_) | ((with_reducible show JE _ _ _ (.Call _ [_, .Name (Str.ofString "bool") _] _ _) _ _); refine je_isi b.isinstance b.bool boot_bool (by decide) ?_) | ((with_reducible show JE _ _ _ (.Call _ [_, .Name (Str.ofString "tuple") _] _ _) _ _); refine je_isi b.isinstance b.tuple boot_tuple (by decide) ?_) | ((with_reducible show JE _ _ _ (.Call _ [_, .Name (Str.ofString "list") _] _ _) _ _); refine je_isi b.isinstance b.list boot_list (by decide) ?_) | ((with_reducible show JE _ _ _ (.Call _ [_, .Name (Str.ofString "dict") _] _ _) _ _); refine je_isi b.isinstance b.dict boot_dict (by decide) ?_) | ((with_reducible show JE _ _ _ (.Call _ [_, .Tuple [.Name (Str.ofString "tuple") _, .Name (Str.ofString "list") _] _ _] _ _) _ _); refine je_isiP b.isinstance b.tuple boot_tuple b.list boot_list (by decide) (by decide) ?_)) | ((with_reducible show JE _ _ _ (.Call (.Name (Str.ofString "len") _) _ _ _) _ _); refine je_len b.len ?_) | ((with_reducible show JE _ _ _ (.Call (.Name (Str.ofString "all") _) _ _ _) _ _); refine je_callB b.all boot_all ?_) | ((with_reducible show JE _ _ _ (.Call (.Name (Str.ofString "any") _) _ _ _) _ _); refine je_callB b.any boot_any ?_) | ((with_reducible show JE _ _ _ (.Call (.Name (Str.ofString "sorted") _) _ _ _) _ _); refine je_callB b.sorted boot_sorted ?_) | ((with_reducible show JE _ _ _ (.Call (.Name (Str.ofString "min") _) _ _ _) _ _); refine je_callB b.min boot_min ?_) | ((with_reducible show JE _ _ _ (.Call (.Name (Str.ofString "list") _) _ _ _) _ _); refine je_callT b.list boot_list ?_) | ((with_reducible show JE _ _ _ (.Call (.Name (Str.ofString "tuple") _) _ _ _) _ _); refine je_callT b.tuple boot_tuple ?_) | ((with_reducible show JE _ _ _ (.Call (.Name (Str.ofString "str") _) _ _ _) _ _); refine je_callT b.str boot_str ?_) | ((with_reducible show JE _ _ _ (.Call (.Name (Str.ofString "int") _) _ _ _) _ _); refine je_callT b.int boot_int ?_)) | with_reducible refine je_not ?_ | with_reducible refine je_one ?_ | with_reducible refine je_and ?_ | with_reducible refine je_or ?_ | ((with_reducible show JE _ _ _ (.Compare _ [_, _] _ _) _ _); refine je_chain ?_) | ((with_reducible show JE _ _ _ (.Compare _ [_] _ _) _ _); refine je_cmp ?_) | with_reducible refine je_op ?_ | with_reducible refine je_tup ?_ | with_reducible refine je_ifExp ?_) | ((with_reducible show Exists _); refine ⟨_, rfl, ?_⟩) | ((with_reducible show ite _ _ _); first | refine ite_t rfl ?_ | refine ite_f rfl ?_) | ((with_reducible show OpD _ _ _ _ _ _); first | with_reducible refine opd_addI ?_ | with_reducible refine opd_subI ?_ | with_reducible refine opd_ltI ?_ | with_reducible refine opd_leI ?_ | with_reducible refine opd_gtI ?_ | with_reducible refine opd_geI ?_ | with_reducible refine opd_eqI ?_ | with_reducible refine opd_neI ?_ | with_reducible refine opd_eqS ?_ | with_reducible refine opd_neS ?_ | with_reducible refine opd_eqB ?_ | with_reducible refine opd_neB ?_) | ((with_reducible show JA _ _ _ _ _ _); first | with_reducible refine ja_nil ?_ | refine ja_cons ?_) | ((with_reducible show JT _ _ _ _ _ _); first | with_reducible refine jt_not ?_ | ((with_reducible show JT _ _ _ (.BoolOp .Or _ _) _ _); with_reducible refine jt_w (jw_or ?_)) | ((with_reducible show JT _ _ _ (.BoolOp .And _ _) _ _); with_reducible refine jt_w (jw_and ?_)) | ((with_reducible show JT _ _ _ (.Compare _ [_, _] _ _) _ _); refine jt_chain ?_) | ((with_reducible show JT _ _ _ (.Compare _ [_] _ _) _ _); refine jt_cmp ?_) | ((with_reducible show JT _ _ _ (.Call _ _ _ _) _ _); refine jt_val ?_)) | ((with_reducible show JW _ _ _ _ _ _); first | with_reducible refine jw_or1 ?_ | with_reducible refine jw_and1 ?_ | with_reducible refine jw_or ?_ | with_reducible refine jw_and ?_) | ((with_reducible show JSs _ _ _ _ _); first | with_reducible refine jss_one ?_ | with_reducible refine jss_cons ?_ | with_reducible refine jss_nil ?_) | ((with_reducible show JS _ _ _ _ _); first | with_reducible refine js_if ?_ | with_reducible refine js_ret ?_ | with_reducible refine js_retN ?_ | ((with_reducible show JS _ _ _ (.Expr _ _) _); refine js_expr ?_) | ((with_reducible show JS _ _ _ (.Assign [.Name _ _] _ _) _); first | ((with_reducible show JS _ _ _ (.Assign [.Name (Str.ofString "value") _] _ _) _); refine js_set 0 ?_ nd) | ((with_reducible show JS _ _ _ (.Assign [.Name (Str.ofString "sign") _] _ _) _); refine js_set 1 ?_ nd))) | ((with_reducible show JG _ _ _ (.Name _ _) _ _); first | ((with_reducible show JG _ _ _ (.Name (Str.ofString "value") _) _ _); refine jg_name 0 ?_ nd) | ((with_reducible show JG _ _ _ (.Name (Str.ofString "sign") _) _ _); refine jg_name 1 ?_ nd))))
theorem scIsNm : FnScope ["value", "sign"] ["value"] (defScope sIsNm) := ⟨rfl, rfl, rfl, by decide +kernel, rfl, by decide +kernel, by decide +kernel⟩
theorem ok_isNm (F : Fun K "_law_is_name" "_law_is_name" sIsNm f fd) (b : Bn mg) : FnOk P w K mg base (L2.CX P w) 1 f fd ["value"] (spD K spName) := by
  refine fn_d F scIsNm (fun ds M Φ Ψ h => ?_) (fun cdv A outer s H E hr ds M Φ Ψ h => ?_)
  · obtain ⟨_, ⟨d, rfl, _⟩, _⟩ := h
    rfl
  · obtain ⟨rfl, ⟨d, rfl, ⟨n, hn⟩, hs⟩, h⟩ := h
    replace h : Φ (.bl (isName d)) [] := h
    have hu := hr.units
    have nd := scIsNm.nd
    show JSs _ [some d, none] [] _ _
    refine jss_cons ?_
    cases d with
    | ins => cases hn
    | raw => cases hn
    | exc => cases hn
    | cl => cases hn
    | str z =>
      rw [nm_eq] at h
      unfold lawNm at h
      walk_at "jgo"
      refine ⟨z.length, .inr (.inr (.inl ⟨z, rfl, hs z rfl, rfl⟩)), ?_⟩
      walk_at "jgo"
      refine ite_2 (fun c1 => ?_) fun c1 => ?_
      · walk_at "jgo"
        rw [c1] at h
        refine ite_2 (fun c2 => ite_t rfl ?_) fun c2 => ?_
        · walk_at "jgo"
          rw [Bool.not_eq_true'] at c2
          rw [c2] at h
          exact h
        · rw [Bool.not_eq_false'] at c2
          rw [c2] at h
          refine jw_or1 (jt_cmp (je_ixS (je_var 0 rfl (je_int ⟨z, 0, _, rfl, rfl, hs z rfl, at_head z (of_decide_eq_true c1), je_str (opd_notInS ⟨_, rfl, ?_⟩)⟩))))
          have h : Φ (.bl (decide (z.cps.toList.headD 0 ∈ alph.cps.toList) && z.cps.toList.all fun c => decide (c ∈ an36.cps.toList))) [] := h
          refine ite_2 (fun c3 => ?_) fun c3 => ?_
          · walk_at "jgo"
            rw [Bool.not_eq_true'] at c3
            have c3' : decide (z.cps.toList.headD 0 ∈ alph.cps.toList) = false := c3
            rw [c3'] at h
            exact h
          · rw [Bool.not_eq_false'] at c3
            have c3' : decide (z.cps.toList.headD 0 ∈ alph.cps.toList) = true := c3
            rw [c3', Bool.true_and] at h
            walk_at "jgo"
            refine je_lc (own := [("sign", 1)]) nd blk_ok (ji_str (je_var 0 rfl ⟨z, rfl, ?_⟩))
            have hz : z.cps.toList.length ≤ 1000000 := by
              have := hs z rfl
              have e : z.length = z.cps.toList.length := by simp [Str.length]
              omega
            refine lc_map (fun x => match x with | .str s => .bl (decide (s.cps.toList.headD 0 ∈ an36.cps.toList)) | _ => .non) (by rw [List.length_map]; exact hz) ?_ fun x hx => ?_
            · have e : (z.cps.toList.map fun c => D.str ⟨#[c]⟩).map (fun x => match x with | .str s => D.bl (decide (s.cps.toList.headD 0 ∈ an36.cps.toList)) | _ => .non) = (z.cps.toList.map fun c => decide (c ∈ an36.cps.toList)).map D.bl := by
                rw [List.map_map, List.map_map]
                rfl
              refine ja_nil ?_
              rw [e]
              refine cd_all rfl ?_
              rw [List.all_map]
              exact h
            · obtain ⟨c, _, rfl⟩ := List.mem_map.mp hx
              refine ⟨[1], [_], by decide, fun s H C cl fp => jc_name 1 nd, fun s H C cl fp => ?_⟩
              show JE _ [some (.str z), some (.str ⟨#[c]⟩)] _ _ _ _
              exact je_cmp (je_var 1 rfl (je_str (opd_inS ⟨rfl, rfl⟩)))
      · rw [c1] at h
        walk_at "jgo"
        exact h
    | _ =>
      walk_at "jgo"
      exact h
end
section
local macro_rules | `(tactic| walk_at "jgo") => `(tactic| repeat' (first | ((with_reducible show JE _ _ _ _ _ _); first | ((with_reducible show JE _ _ _ (.Constant _ _ _) _ _); first | with_reducible refine je_int ?_ | with_reducible refine je_str ?_ | with_reducible refine je_bl ?_ | with_reducible refine je_non ?_) | ((with_reducible show JE _ _ _ (.Name _ _) _ _); first | ((with_reducible show JE _ _ _ (.Name (Str.ofString "value") _) _ _); refine je_var 0 rfl ?_)) | ((with_reducible show JE _ _ _ (.Call (.Name _ _) _ _ _) _ _); first | ((with_reducible show JE _ _ _ (.Call (.Name (Str.ofString "isinstance") _) _ _ _) _ _); first | ((with_reducible show JE _ _ _ (.Call _ [_, .Name (Str.ofString "str") _] _ _) _ _); refine je_isi b.isinstance b.str boot_str (by decide) ?_) | ((with_reducible show JE _ _ _ (.Call _ [_, .Name (Str.ofString "int") _] _ _) _ _); refine je_isi b.isinstance b.int boot_int (by decide) ?_) | ((with_reducible show JE _ _ _ (.Call _ [_, .Name (Str.ofString "bool") _] _ _) _ _); refine je_isi b.isinstance b.bool boot_bool (by decide) ?_) | ((with_reducible show JE _ _ _ (.Call _ [_, .Name (Str.ofString "tuple") _] _ _) _ _); refine je_isi b.isinstance b.tuple boot_tuple (by decide) ?_) | ((with_reducible show JE _ _ _ (.Call _ [_, .Name (Str.ofString "list") _] _ _) _ _); refine je_isi b.isinstance b.list boot_list (by decide) ?_) | ((with_reducible show JE _ _ _ (.Call _ [_, .Name (Str.ofString "dict") _] _ _) _ _); refine je_isi b.isinstance b.dict boot_dict (by decide) ?_) | ((with_reducible show JE _ _ _ (.Call _ [_, .Tuple [.Name (Str.ofString "tuple") _, .Name (Str.ofString "list") _] _ _] _ _) _ _); refine je_isiP b.isinstance b.tuple boot_tuple b.list boot_list (by decide) (by decide) ?_)) | ((with_reducible show JE _ _ _ (.Call (.Name (Str.ofString "len") _) _ _ _) _ _); refine je_len b.len ?_) | ((with_reducible show JE _ _ _ (.Call (.Name (Str.ofString "all") _) _ _ _) _ _); refine je_callB b.all boot_all ?_) | ((with_reducible show JE _ _ _ (.Call (.Name (Str.ofString "any") _) _ _ _) _ _); refine je_callB b.any boot_any ?_) | ((with_reducible show JE _ _ _ (.Call (.Name (Str.ofString "sorted") _) _ _ _) _ _); refine je_callB b.sorted boot_sorted ?_) | ((with_reducible show JE _ _ _ (.Call (.Name (Str.ofString "min") _) _ _ _) _ _); refine je_callB b.min boot_min ?_) | ((with_reducible show JE _ _ _ (.Call (.Name (Str.ofString "list") _) _ _ _) _ _); refine je_callT b.list boot_list ?_) | ((with_reducible show JE _ _ _ (.Call (.Name (Str.ofString "tuple") _) _ _ _) _ _); refine je_callT b.tuple boot_tuple ?_) | ((with_reducible show JE _ _ _ (.Call (.Name (Str.ofString "str") _) _ _ _) _ _); refine je_callT b.str boot_str ?_) | ((with_reducible show JE _ _ _ (.Call (.Name (Str.ofString "int") _) _ _ _) _ _); refine je_callT b.int boot_int ?_)) | with_reducible refine je_not ?_ | with_reducible refine je_one ?_ | with_reducible refine je_and ?_ | with_reducible refine je_or ?_ | ((with_reducible show JE _ _ _ (.Compare _ [_, _] _ _) _ _); refine je_chain ?_) | ((with_reducible show JE _ _ _ (.Compare _ [_] _ _) _ _); refine je_cmp ?_) | with_reducible refine je_op ?_ | with_reducible refine je_tup ?_ | with_reducible refine je_ifExp ?_) | ((with_reducible show Exists _); refine ⟨_, rfl, ?_⟩) | ((with_reducible show ite _ _ _); first | refine ite_t rfl ?_ | refine ite_f rfl ?_) | ((with_reducible show OpD _ _ _ _ _ _); first | with_reducible refine opd_addI ?_ | with_reducible refine opd_subI ?_ | with_reducible refine opd_ltI ?_ | with_reducible refine opd_leI ?_ | with_reducible refine opd_gtI ?_ | with_reducible refine opd_geI ?_ | with_reducible refine opd_eqI ?_ | with_reducible refine opd_neI ?_ | with_reducible refine opd_eqS ?_ | with_reducible refine opd_neS ?_ | with_reducible refine opd_eqB ?_ | with_reducible refine opd_neB ?_) | ((with_reducible show JA _ _ _ _ _ _); first | with_reducible refine ja_nil ?_ | refine ja_cons ?_) | ((with_reducible show JT _ _ _ _ _ _); first | with_reducible refine jt_not ?_ | ((with_reducible show JT _ _ _ (.BoolOp .Or _ _) _ _); with_reducible refine jt_w (jw_or ?_)) | ((with_reducible show JT _ _ _ (.BoolOp .And _ _) _ _); with_reducible refine jt_w (jw_and ?_)) | ((with_reducible show JT _ _ _ (.Compare _ [_, _] _ _) _ _); refine jt_chain ?_) | ((with_reducible show JT _ _ _ (.Compare _ [_] _ _) _ _); refine jt_cmp ?_) | ((with_reducible show JT _ _ _ (.Call _ _ _ _) _ _); refine jt_val ?_)) | ((with_reducible show JW _ _ _ _ _ _); first | with_reducible refine jw_or1 ?_ | with_reducible refine jw_and1 ?_ | with_reducible refine jw_or ?_ | with_reducible refine jw_and ?_) | ((with_reducible show JSs _ _ _ _ _); first | with_reducible refine jss_one ?_ | with_reducible refine jss_cons ?_ | with_reducible refine jss_nil ?_) | ((with_reducible show JS _ _ _ _ _); first | with_reducible refine js_if ?_ | with_reducible refine js_ret ?_ | with_reducible refine js_retN ?_ | ((with_reducible show JS _ _ _ (.Expr _ _) _); refine js_expr ?_) | ((with_reducible show JS _ _ _ (.Assign [.Name _ _] _ _) _); first | ((with_reducible show JS _ _ _ (.Assign [.Name (Str.ofString "value") _] _ _) _); refine js_set 0 ?_ nd))) | ((with_reducible show JG _ _ _ (.Name _ _) _ _); first | ((with_reducible show JG _ _ _ (.Name (Str.ofString "value") _) _ _); refine jg_name 0 ?_ nd))))
end
end
end K28
end

section
set_option Elab.async false
set_option linter.all false
set_option maxRecDepth 100000
set_option maxHeartbeats 4000000
set_option pp.maxSteps 700
set_option hygiene false
open PySem PyProof.Rows L2 DL
namespace K28
open PySem PySem.Spec PyProof.Rows L2 DL TL DN
def IsItem (kv : D × D) : Prop := ∃ (a : Str) (m : Int) (c : Str) (i e : Int), kv = (.tup [.str a, .int m], .tup [.str c, .int i, .int e]) ∧ isRow (.tup [.str a, .int m, .str c, .int i, .int e]) = true ∧ e ≤ 100
def PlanKv (kvs : List (D × D)) : Prop := kvs.length ≤ 100 ∧ (kvs.map (·.1)).Nodup ∧ ∀ kv ∈ kvs, IsItem kv
def rowOf : D × D → D
  | (.tup k, .tup v) => .tup (k ++ v)
  | _ => .non
theorem lk_mem {k v : D} : ∀ {kvs : List (D × D)}, (kvs.map (·.1)).Nodup → (k, v) ∈ kvs → lkD kvs k = some v
  | [], _, h => by simp at h
  | (j, u) :: kvs, hn, h => by
    rw [List.map_cons, List.nodup_cons] at hn
    unfold lkD
    rcases List.mem_cons.mp h with e | h
    · cases e
      rw [List.find?_cons_of_pos (by simp)]
      rfl
    · have ne : ¬ j = k := fun e => hn.1 (by rw [e]; exact List.mem_map.mpr ⟨(k, v), h, rfl⟩)
      rw [List.find?_cons_of_neg (by simpa using ne)]
      exact lk_mem hn.2 h
theorem lk_none {k : D} : ∀ {kvs : List (D × D)}, k ∉ kvs.map (·.1) → lkD kvs k = none
  | [], _ => rfl
  | (j, u) :: kvs, h => by
    rw [List.map_cons, List.mem_cons] at h
    unfold lkD
    rw [List.find?_cons_of_neg (by simpa using fun e => h (.inl e.symm))]
    exact lk_none fun m => h (.inr m)
theorem pt_keys (kvs : List (D × D)) (k d : D) : (ptD kvs k d).map (·.1) = if k ∈ kvs.map (·.1) then kvs.map (·.1) else kvs.map (·.1) ++ [k] := by
  unfold ptD
  by_cases h : k ∈ kvs.map (·.1)
  · rw [if_pos h, if_pos (by
      obtain ⟨p, hp, e⟩ := List.mem_map.mp h
      exact List.any_eq_true.mpr ⟨p, hp, decide_eq_true e⟩), List.map_map]
    refine List.map_congr_left fun p _ => ?_
    show (if p.1 = k then (p.1, d) else p).1 = p.1
    split <;> rfl
  · rw [if_neg h, if_neg (fun q => by
      obtain ⟨p, hp, e⟩ := List.any_eq_true.mp q
      exact h (List.mem_map.mpr ⟨p, hp, of_decide_eq_true e⟩)), List.map_append]
    rfl
noncomputable def sn (acc : List (D × D)) (ks : List D) : List (D × D) := ks.foldl (fun acc k => ptD acc k (.bl true)) acc
theorem sn_keys : ∀ (ks : List D) (acc : List (D × D)), (sn acc ks).length ≤ acc.length + ks.length ∧ ((sn acc ks).length = acc.length + ks.length ↔ ks.Nodup ∧ ∀ k ∈ ks, k ∉ acc.map (·.1))
  | [], acc => by simp [sn]
  | k :: ks, acc => by
    have ih := sn_keys ks (ptD acc k (.bl true))
    have hk := pt_keys acc k (.bl true)
    have hlen : (ptD acc k (.bl true)).length = ((ptD acc k (.bl true)).map (·.1)).length := by rw [List.length_map]
    have e : sn acc (k :: ks) = sn (ptD acc k (.bl true)) ks := rfl
    rw [e]
    by_cases h : k ∈ acc.map (·.1)
    · rw [if_pos h] at hk
      rw [hk, List.length_map] at hlen
      rw [hlen] at ih
      refine ⟨by rw [List.length_cons]; omega, fun q => ?_, fun q => absurd h (q.2 k List.mem_cons_self)⟩
      rw [List.length_cons] at q
      omega
    · rw [if_neg h] at hk
      rw [hk, List.length_append, List.length_map, List.length_singleton] at hlen
      rw [hlen, hk] at ih
      refine ⟨by rw [List.length_cons]; omega, ?_⟩
      rw [List.length_cons, show acc.length + (ks.length + 1) = acc.length + 1 + ks.length by omega, ih.2, List.nodup_cons]
      constructor
      · rintro ⟨h1, h2⟩
        refine ⟨⟨fun m => h2 k m (List.mem_append_right _ (List.mem_singleton.mpr rfl)), h1⟩, fun j hj => ?_⟩
        rcases List.mem_cons.mp hj with rfl | hj
        · exact h
        · exact fun m => h2 j hj (List.mem_append_left _ m)
      · rintro ⟨⟨h1, h2⟩, h3⟩
        refine ⟨h2, fun j hj m => ?_⟩
        rcases List.mem_append.mp m with m | m
        · exact h3 j (List.mem_cons_of_mem _ hj) m
        · rw [List.mem_singleton.mp m] at hj
          exact h1 hj
theorem seen_sn (xs : List D) : seen xs = sn [] (xs.map key2) := by
  unfold seen sn
  rw [List.foldl_map]
/-- twice the same key -/
theorem seen_nodup (xs : List D) : decide (((seen xs).length : Int) < (xs.length : Int)) = !decide (xs.map key2).Nodup := by
  have h := sn_keys (xs.map key2) []
  rw [← seen_sn, List.length_map, List.length_nil, Nat.zero_add] at h
  by_cases hn : (xs.map key2).Nodup
  · have e := h.2.mpr ⟨hn, fun _ _ => by simp⟩
    rw [decide_eq_true hn]
    exact decide_eq_false (by omega)
  · have ne : ¬ (seen xs).length = xs.length := fun e => hn (h.2.mp e).1
    rw [decide_eq_false hn]
    exact decide_eq_true (by omega)
def isKey (d : D) : Prop := ∃ (a : Str) (m : Int), d = .tup [.str a, .int m]
theorem eqd_key {x y : D} (hx : isKey x) (hy : isKey y) : eqd x y = decide (x = y) := by
  obtain ⟨a, m, rfl⟩ := hx
  obtain ⟨b, n, rfl⟩ := hy
  have e : eqd (.tup [.str a, .int m]) (.tup [.str b, .int n]) = ((a == b) && ((m == n) && true)) := by
    simp [eqd, py, pyA, PyData.eqv, PyData.eqvAll]
  rw [e]
  by_cases h : a = b
  · subst h
    by_cases h2 : m = n
    · subst h2
      simp
    · have : ¬ (D.tup [.str a, .int m] = D.tup [.str a, .int n]) := fun e => h2 (by cases e; rfl)
      rw [decide_eq_false this]
      simp [h2]
  · have : ¬ (D.tup [.str a, .int m] = D.tup [.str b, .int n]) := fun e => h (by cases e; rfl)
    rw [decide_eq_false this]
    simp [h]
noncomputable def dup (ks : List D) (i : Nat) : Bool := match ks[i]? with
  | some k => (ks.take i).any fun z => eqd z k
  | none => false
theorem dup_no {ks : List D} (hk : ∀ k ∈ ks, isKey k) : (∀ i, i < ks.length → dup ks i = false) ↔ ks.Nodup := by
  have key : ∀ i k, ks[i]? = some k → (dup ks i = true ↔ ∃ j, j < i ∧ ks[j]? = some k) := by
    intro i k hi
    unfold dup
    rw [hi]
    simp only
    rw [List.any_eq_true]
    constructor
    · rintro ⟨z, hz, e⟩
      have hz' := List.mem_of_mem_take hz
      rw [eqd_key (hk z hz') (hk k (List.mem_of_getElem? hi))] at e
      have e := of_decide_eq_true e
      subst e
      obtain ⟨j, hj⟩ := List.getElem?_of_mem hz
      rw [List.getElem?_take] at hj
      split at hj
      · exact ⟨j, by assumption, hj⟩
      · cases hj
    · rintro ⟨j, hj, hjk⟩
      refine ⟨k, List.mem_of_getElem? (i := j) (by rw [List.getElem?_take, if_pos hj]; exact hjk), ?_⟩
      have m := List.mem_of_getElem? hi
      rw [eqd_key (hk k m) (hk k m)]
      exact decide_eq_true rfl
  rw [List.Nodup, List.pairwise_iff_getElem]
  constructor
  · intro h i j hi hj hij e
    have := h j hj
    have t : dup ks j = true := (key j _ (List.getElem?_eq_getElem hj)).mpr ⟨i, hij, by rw [List.getElem?_eq_getElem hi, e]⟩
    rw [this] at t
    cases t
  · intro h i hi
    rw [Bool.eq_false_iff]
    intro t
    obtain ⟨j, hj, e⟩ := (key i _ (List.getElem?_eq_getElem hi)).mp t
    have hjl : j < ks.length := by omega
    rw [List.getElem?_eq_getElem hjl] at e
    exact h j i hjl hi hj (Option.some.inj e)
theorem fit_lst {xs : List D} (h1 : ∀ x ∈ xs, plain x = true ∧ (py x).canLay0 = true ∧ (py x).depth ≤ 60) : fit (.lst xs) = true := fit_tup h1
theorem eqd_nil (xs : List D) : eqd (.lst xs) (.lst []) = xs.isEmpty := by
  cases xs <;> simp [eqd, py, pyA, PyData.eqv, PyData.eqvAll]
noncomputable def joinK (kvs : List (D × D)) (k : D) : D := match k, lkD kvs k with
  | .tup ks, some (.tup v) => .tup (ks ++ v)
  | _, _ => .non
theorem join_row {kvs : List (D × D)} (h : PlanKv kvs) : (kvs.map (·.1)).map (joinK kvs) = kvs.map rowOf := by
  rw [List.map_map]
  refine List.map_congr_left fun kv hkv => ?_
  obtain ⟨a, m, c, i, e, rfl, _⟩ := h.2.2 kv hkv
  show joinK kvs (.tup [.str a, .int m]) = _
  unfold joinK
  rw [lk_mem h.2.1 hkv]
  rfl
def spPlanRows : DL.Spec := fun ds M Φ _ => ∃ t kvs, ds = [.raw (.ref t)] ∧ M = [(t, .dT kvs)] ∧ PlanKv kvs ∧ ∀ rows, rows.Perm (kvs.map rowOf) → Φ (.lst rows) [(t, .dT kvs)]
theorem keys_sort {ks : List D} (h : ∀ k ∈ ks, isKey k) : ks.all plain = true ∧ PySem.W.AllAlike (ks.map py) ∧ PySem.W.Sortable (ks.map py) ∧ ∀ x ∈ ks, (py x).depth ≤ 32 := by
  refine ⟨List.all_eq_true.mpr fun x hx => ?_, fun d hd e he => ?_, .inl fun d hd => ?_, fun x hx => ?_⟩
  · obtain ⟨a, m, rfl⟩ := h x hx
    rfl
  · obtain ⟨x, hx, rfl⟩ := List.mem_map.mp hd
    obtain ⟨y, hy, rfl⟩ := List.mem_map.mp he
    obtain ⟨a, m, rfl⟩ := h x hx
    obtain ⟨a, m, rfl⟩ := h y hy
    rfl
  · obtain ⟨x, hx, rfl⟩ := List.mem_map.mp hd
    obtain ⟨a, m, rfl⟩ := h x hx
    exact ⟨_, _, rfl⟩
  · obtain ⟨a, m, rfl⟩ := h x hx
    exact (by decide : 1 ≤ 32)
section
variable {P : Program} {w : World} {K : PySem.W.Frag} {mg : Str → Option Value} {base : Heap} {f : Addr} {fd : FuncData}
theorem scPlanRows : FnScope ["plan", "key"] ["plan"] (defScope sPlanRows) := ⟨rfl, rfl, rfl, by decide +kernel, rfl, by decide +kernel, by decide +kernel⟩
theorem ok_planRows (F : Fun K "_law_plan_rows" "_law_plan_rows" sPlanRows f fd) (b : Bn mg) : FnOk P w K mg base (L2.CX P w) 1 f fd ["plan"] (spD K spPlanRows) := by
  refine fn_d F scPlanRows (fun ds M Φ Ψ h => ?_) (fun cdv A outer s H E hr ds M Φ Ψ h => ?_)
  · obtain ⟨t, kvs, rfl, _⟩ := h
    rfl
  · obtain ⟨t, kvs, rfl, rfl, hp, h⟩ := h
    have hu := hr.units
    have nd := scPlanRows.nd
    show JSs _ [some (.raw (.ref t)), none] [(t, .dT kvs)] _ _
    have hkeys : ∀ k ∈ kvs.map (·.1), isKey k := fun k hk => by
      obtain ⟨kv, hkv, rfl⟩ := List.mem_map.mp hk
      obtain ⟨a, m, c, i, e, rfl, _⟩ := hp.2.2 kv hkv
      exact ⟨a, m, rfl⟩
    obtain ⟨q1, q2, q3, q4⟩ := keys_sort hkeys
    refine jss_one (js_ret (je_lc (own := [("key", 1)]) nd blk_ok (ji_list (je_callB b.sorted boot_sorted (ja_cons (je_callT b.list boot_list (ja_cons (je_var 0 rfl (ja_nil (cd_listDT rfl (.inr ⟨0, t, rfl, rfl⟩) (ja_nil (cd_sorted hu q1 q2 q3 q4 ⟨_, rfl, ?_⟩)))))))))))) 
    refine lc_map (joinK kvs) (by rw [sort_length, List.length_map]; have := hp.1; omega) (h _ ?_) fun x hx => ?_
    · have := ((List.mergeSort_perm (kvs.map (·.1)) leD).map (joinK kvs))
      rw [join_row hp] at this
      exact this
    · have hx' := sort_mem.mp hx
      obtain ⟨kv, hkv, rfl⟩ := List.mem_map.mp hx'
      obtain ⟨a, m, c, i, e, rfl, _⟩ := hp.2.2 kv hkv
      refine ⟨[1], [_], by decide, fun s H C cl fp => jc_name 1 nd, fun s H C cl fp => ?_⟩
      show JE _ [some (.raw (.ref t)), some (.tup [.str a, .int m])] _ _ _ _
      refine je_op (je_var 1 rfl (je_dget (u1 hr) (je_var 0 rfl (je_var 1 rfl ⟨_, .inr ⟨kvs, [.inr a, .inl m], .inr ⟨0, t, rfl, rfl⟩, List.cons_ne_nil _ _, rfl, lk_mem hp.2.1 hkv⟩, opd_addT (by show 2 + 3 ≤ 1000000; decide) ⟨?_, rfl⟩⟩))))
      unfold joinK
      rw [lk_mem hp.2.1 hkv]
end
end K28
end

section
set_option Elab.async false
set_option linter.all false
set_option maxRecDepth 100000
set_option maxHeartbeats 4000000
set_option pp.maxSteps 700
set_option hygiene false
open PySem PyProof.Rows L2 DL
namespace K28
open PySem PySem.Spec PyProof.Rows L2 DL TL DN
abbrev sRInit : Stmt := inClass (top 12) 0
abbrev sRefuse : Stmt := inClass (top 12) 1
abbrev sTake : Stmt := inClass (top 12) 2
abbrev sNeed : Stmt := inClass (top 12) 4
abbrev sNeedName : Stmt := inClass (top 12) 5
abbrev sNeedNum : Stmt := inClass (top 12) 6
abbrev sNeedEnd : Stmt := inClass (top 12) 7
/-- the reader's fields -/
def rdF (ws : List Str) (l s : Nat) : List (Str × D) := [("words", .lst (ws.map .str)), ("line", .int l), ("spot", .int s)]
theorem rd_words (ws : List Str) (l s : Nat) : (rdF ws l s).lookup ("words" : Str) = some (.lst (ws.map .str)) := rfl
theorem rd_line (ws : List Str) (l s : Nat) : (rdF ws l s).lookup ("line" : Str) = some (.int l) := rfl
theorem rd_spot (ws : List Str) (l s : Nat) : (rdF ws l s).lookup ("spot" : Str) = some (.int s) := rfl
theorem rd_no {ws : List Str} {l s : Nat} {m : Str} (h1 : m ≠ "words") (h2 : m ≠ "line") (h3 : m ≠ "spot") : (rdF ws l s).lookup m = none := by
  unfold rdF
  rw [List.lookup_cons, beq_eq_false_iff_ne.mpr h1]
  simp only
  rw [List.lookup_cons, beq_eq_false_iff_ne.mpr h2]
  simp only
  rw [List.lookup_cons, beq_eq_false_iff_ne.mpr h3]
  rfl
theorem put_spot (ws : List Str) (l s u : Nat) : putD "spot" (.int u) (rdF ws l s) = rdF ws l u := by
  unfold rdF
  rw [putD, if_neg (by decide), putD, if_neg (by decide), putD, if_pos rfl]
def spRInit (C : Addr) : DL.Spec := fun ds M Φ _ => ∃ t rs l, ds = [.raw (.ref t), rowsD rs, .int (l : Nat)] ∧ M = [(t, .ins C [])] ∧ l < rs.length ∧ Φ .non [(t, .ins C (rdF (rs.getD l []) l 0))]
def spRefuse (C CT : Addr) : DL.Spec := fun ds M _ Ψ => ∃ t ws l s, ds = [.raw (.ref t)] ∧ M = [(t, .ins C (rdF ws l s))] ∧ Ψ (exText CT (l + 1) (s + 1)) M
def spNeedEnd (C CT : Addr) : DL.Spec := fun ds M Φ Ψ => ∃ t ws l s, ds = [.raw (.ref t)] ∧ M = [(t, .ins C (rdF ws l s))] ∧ ws.length ≤ 100000 ∧ (ws.length ≤ s → Φ .non M) ∧ (s < ws.length → Ψ (exText CT (l + 1) (s + 1)) M)
/-- take(closure): the closure tells p -/
def tTake (C CT : Addr) (p : D → Bool) (ok : D → Prop) (t : Addr) (M : Mem) (Φ : D → Mem → Prop) (Ψ : XP) : Prop := ∃ (ws : List Str) (l s : Nat) (P : Addr) (q : Str), M = [(t, .ins C (rdF ws l s)), (P, .tab q)] ∧ ws.length ≤ 100000 ∧ s ≤ ws.length ∧ (∀ z ∈ ws, ok (.str z)) ∧
  (∀ z, ws[s]? = some z → p (.str z) = true → Φ (.str z) [(t, .ins C (rdF ws l (s + 1))), (P, .tab q)]) ∧ ((∀ z, ws[s]? = some z → p (.str z) = false) → Ψ (exText CT (l + 1) (s + 1)) M)
theorem use_refuse {C CT t : Addr} {ws : List Str} {l s : Nat} {M : Mem} {Φ : D → Mem → Prop} {Ψ : XP} (k : Nat) (hk : M[k]? = some (t, .ins C (rdF ws l s))) (h : Ψ (exText CT (l + 1) (s + 1)) M) : Use (spRefuse C CT) [.raw (.ref t)] M Φ Ψ :=
  .one k t _ hk ⟨t, ws, l, s, rfl, rfl, fun c' e => by
    cases e
    rw [set_same hk]
    exact h⟩
theorem use_end {C CT t : Addr} {ws : List Str} {l s : Nat} {M : Mem} {Φ : D → Mem → Prop} {Ψ : XP} (k : Nat) (hk : M[k]? = some (t, .ins C (rdF ws l s))) (hl : ws.length ≤ 100000) (yes : ws.length ≤ s → Φ .non M) (no : s < ws.length → Ψ (exText CT (l + 1) (s + 1)) M) : Use (spNeedEnd C CT) [.raw (.ref t)] M Φ Ψ :=
  .one k t _ hk ⟨t, ws, l, s, rfl, rfl, hl, fun z c' e => by
    cases e
    rw [set_same hk]
    exact yes z, fun z c' e => by
    cases e
    rw [set_same hk]
    exact no z⟩
section
variable {P : Program} {w : World} {K : PySem.W.Frag} {mg : Str → Option Value} {base : Heap} {f : Addr} {fd : FuncData} {C CT : Addr}
theorem scRInit : FnScope ["self", "rows", "line"] ["self", "rows", "line"] (defScope sRInit) := ⟨rfl, rfl, rfl, by decide +kernel, rfl, by decide +kernel, by decide +kernel⟩
theorem ok_rinit (F : Fun K "__init__" "Reader.__init__" sRInit f fd) (cl : Cls K C) (nW : NoAttr K C "words") (nL : NoAttr K C "line") (nS : NoAttr K C "spot") : FnOk P w K mg base (L2.CX P w) 1 f fd ["self", "rows", "line"] (spD K (spRInit C)) := by
  refine fn_d F scRInit (fun ds M Φ Ψ h => ?_) (fun cdv A outer s H E hr ds M Φ Ψ h => ?_)
  · obtain ⟨_, _, _, rfl, _⟩ := h
    rfl
  · obtain ⟨t, rs, l, rfl, rfl, hl, h⟩ := h
    show JSs _ [some (.raw (.ref t)), some (rowsD rs), some (.int l)] [(t, .ins C [])] _ _
    have e0 : atI (rs.map fun r => D.lst (r.map D.str)) (l : Nat) = some (.lst ((rs.getD l []).map D.str)) := by
      rw [DN.atI_nat, List.getElem?_map, List.getElem?_eq_getElem hl, List.getD_eq_getElem?_getD, List.getElem?_eq_getElem hl]
      rfl
    refine jss_cons (js_fld 0 (je_ixL (je_var 1 rfl (je_var 2 rfl ⟨_, _, _, rfl, rfl, e0, je_var 0 rfl ⟨t, C, _, rfl, rfl, cl, nW, show 0 < 900 by decide, ?_⟩⟩))))
    generalize rs.getD l [] = ws at h
    show JSs _ [some (.raw (.ref t)), some (rowsD rs), some (.int l)] [(t, .ins C [("words", .lst (ws.map .str))])] _ _
    refine jss_cons (js_fld 0 (je_var 2 rfl (je_var 0 rfl ⟨t, C, _, rfl, rfl, cl, nL, show 1 < 900 by decide, ?_⟩)))
    have e1 : putD "line" (.int l) [(("words" : Str), D.lst (ws.map .str))] = [(("words" : Str), D.lst (ws.map .str)), (("line" : Str), .int l)] := by
      rw [putD, if_neg (by decide)]
      rfl
    show JSs _ [some (.raw (.ref t)), some (rowsD rs), some (.int l)] [(t, .ins C (putD "line" (.int l) [("words", .lst (ws.map .str))]))] _ _
    rw [e1]
    refine jss_one (js_fld 0 (je_int (je_var 0 rfl ⟨t, C, _, rfl, rfl, cl, nS, show 2 < 900 by decide, ?_⟩)))
    have e2 : putD "spot" (.int 0) [(("words" : Str), D.lst (ws.map .str)), (("line" : Str), .int l)] = rdF ws l 0 := by
      rw [putD, if_neg (by decide), putD, if_neg (by decide)]
      rfl
    show Φ .non [(t, .ins C (putD "spot" (.int 0) [("words", .lst (ws.map .str)), ("line", .int l)]))]
    rw [e2]
    exact h
theorem scRefuse : FnScope ["self"] ["self"] (defScope sRefuse) := ⟨rfl, rfl, rfl, by decide +kernel, rfl, by decide +kernel, by decide +kernel⟩
theorem ok_refuse (F : Fun K "refuse" "Reader.refuse" sRefuse f fd) (gT : GXc P w K mg base 1 "BadText" CT ["line", "word"]) (cl : Cls K C) (nL : NoAttr K C "line") (nS : NoAttr K C "spot") : FnOk P w K mg base (L2.CX P w) 3 f fd ["self"] (spD K (spRefuse C CT)) := by
  refine fn_d F scRefuse (fun ds M Φ Ψ h => ?_) (fun cdv A outer s H E hr ds M Φ Ψ h => ?_)
  · obtain ⟨_, _, _, _, rfl, _⟩ := h
    rfl
  · obtain ⟨t, ws, l, s, rfl, rfl, h⟩ := h
    show JSs _ [some (.raw (.ref t))] [(t, .ins C (rdF ws l s))] _ _
    refine jss_one (js_raise gT (hr.mono (by decide)) ?_)
    refine ja_cons (je_op (je_fldC 0 (je_var 0 rfl ⟨t, C, _, _, rfl, rfl, cl, nL, rd_line ws l s, je_int (opd_addI ?_)⟩)))
    refine ja_cons (je_op (je_fldC 0 (je_var 0 rfl ⟨t, C, _, _, rfl, rfl, cl, nS, rd_spot ws l s, je_int (opd_addI (ja_nil ⟨rfl, show 2 ≤ 900 by decide, ?_⟩))⟩)))
    exact h
theorem scNeedEnd : FnScope ["self"] ["self"] (defScope sNeedEnd) := ⟨rfl, rfl, rfl, by decide +kernel, rfl, by decide +kernel, by decide +kernel⟩
theorem ok_needEnd (F : Fun K "need_end" "Reader.need_end" sNeedEnd f fd) (b : Bn mg) (gR : GMe P w K mg base 3 C "refuse" [] (spRefuse C CT)) (cl : Cls K C) (nW : NoAttr K C "words") (nS : NoAttr K C "spot") : FnOk P w K mg base (L2.CX P w) 5 f fd ["self"] (spD K (spNeedEnd C CT)) := by
  refine fn_d F scNeedEnd (fun ds M Φ Ψ h => ?_) (fun cdv A outer s H E hr ds M Φ Ψ h => ?_)
  · obtain ⟨_, _, _, _, rfl, _⟩ := h
    rfl
  · obtain ⟨t, ws, l, s, rfl, rfl, hl, yes, no⟩ := h
    show JSs _ [some (.raw (.ref t))] [(t, .ins C (rdF ws l s))] _ _
    refine jss_one (js_if (jt_cmp (je_fldC 0 (je_var 0 rfl ⟨t, C, _, _, rfl, rfl, cl, nS, rd_spot ws l s, ?_⟩))))
    refine je_callB b.len boot_len (ja_cons (je_fldC 0 (je_var 0 rfl ⟨t, C, _, _, rfl, rfl, cl, nW, rd_words ws l s, ja_nil (cd_lenL (opd_ltI ⟨_, rfl, ?_⟩))⟩)))
    rw [List.length_map]
    by_cases c : s < ws.length
    · refine ite_t (decide_eq_true (by omega)) (jss_one (js_expr (je_meth0 gR (hr.mono (by decide)) (je_var 0 rfl ⟨.inr ⟨0, t, _, rfl, rfl, rd_no (by decide) (by decide) (by decide)⟩, use_refuse 0 rfl (no c)⟩))))
    · exact ite_f (decide_eq_false (by omega)) (jss_nil (yes (by omega)))
theorem scTake : FnScope ["self", "is_right"] ["self", "is_right"] (defScope sTake) := ⟨rfl, rfl, rfl, by decide +kernel, rfl, by decide +kernel, by decide +kernel⟩
theorem ok_take (F : Fun K "take" "Reader.take" sTake f fd) (hme : Meth K C "take" f) (hb : Binds K fd ["self", "is_right"] []) (b : Bn mg) (gR : GMe P w K mg base 3 C "refuse" [] (spRefuse C CT)) (cl : Cls K C) (nW : NoAttr K C "words") (nS : NoAttr K C "spot") : GMeL P w K mg base 4 C "take" (tTake C CT) := by
  refine ⟨cl, sTake, "Reader.take", f, fd, "self", "is_right", ["self", "is_right"], F, hme, scTake, rfl, Or.inl rfl, by decide, by decide, hb, fun cdv A outer s0 H E hr fc R M p ok t Φ Ψ hT hact => ?_⟩
  obtain ⟨ws, l, s, PT, q, rfl, hl, hs, hok, yes, no⟩ := hT
  show JSs _ [some (.raw (.ref t)), some (.cl fc R)] [(t, .ins C (rdF ws l s)), (PT, .tab q)] _ _
  refine jss_cons (js_if (jt_w (jw_or (jt_cmp (je_fldC 0 (je_var 0 rfl ⟨t, C, _, _, rfl, rfl, cl, nS, rd_spot ws l s, ?_⟩))))))
  refine je_callB b.len boot_len (ja_cons (je_fldC 0 (je_var 0 rfl ⟨t, C, _, _, rfl, rfl, cl, nW, rd_words ws l s, ja_nil (cd_lenL (opd_eqI ⟨_, rfl, ?_⟩))⟩)))
  rw [List.length_map]
  by_cases c : s = ws.length
  · refine ite_t (decide_eq_true (by omega)) ?_
    refine ite_t rfl ?_
    refine jss_one (js_expr (je_meth0 gR (hr.mono (by decide)) (je_var 0 rfl ⟨.inr ⟨0, t, _, rfl, rfl, rd_no (by decide) (by decide) (by decide)⟩, use_refuse 0 rfl ?_⟩)))
    refine no fun z hz => ?_
    rw [List.getElem?_eq_none (by omega)] at hz
    cases hz
  · refine ite_f (decide_eq_false (by omega)) ?_
    have hlt : s < ws.length := by omega
    have e0 : atI (ws.map D.str) (s : Nat) = some (.str ws[s]) := by
      rw [DN.atI_nat, List.getElem?_map, List.getElem?_eq_getElem hlt]
      rfl
    refine jw_or1 (jt_not (jt_val (hact [] _ _ _ _ _ _ _ rfl (fun env => rfl) (ja_cons (je_ixL (je_fldC 0 (je_var 0 rfl ⟨t, C, _, _, rfl, rfl, cl, nW, rd_words ws l s, je_fldC 0 (je_var 0 rfl ⟨t, C, _, _, rfl, rfl, cl, nS, rd_spot ws l s, _, _, _, rfl, rfl, e0, ja_nil ⟨_, rfl, rfl, hok _ (List.getElem_mem hlt), _, rfl, ?_⟩⟩)⟩)))))))
    cases c2 : p (.str ws[s]) with
    | false =>
      refine ite_t rfl (jss_one (js_expr (je_meth0 gR (hr.mono (by decide)) (je_var 0 rfl ⟨.inr ⟨0, t, _, rfl, rfl, rd_no (by decide) (by decide) (by decide)⟩, use_refuse 0 rfl ?_⟩))))
      refine no fun z hz => ?_
      rw [List.getElem?_eq_getElem hlt] at hz
      cases hz
      exact c2
    | true =>
      refine ite_f rfl (jss_nil ?_)
      refine jss_cons (js_fldaddI 0 (je_var 0 rfl ⟨t, C, _, _, rfl, rfl, cl, nS, rd_spot ws l s, je_int ⟨_, _, rfl, rfl, show 3 < 900 by decide, ?_⟩⟩))
      have e1 : putD "spot" (.int ((s : Int) + 1)) (rdF ws l s) = rdF ws l (s + 1) := put_spot ws l s (s + 1)
      show JSs _ [some (.raw (.ref t)), some (.cl fc R)] [(t, .ins C (putD "spot" (.int ((s : Int) + 1)) (rdF ws l s))), (PT, .tab q)] _ _
      rw [e1]
      refine jss_one (js_ret (je_ixL (je_fldC 0 (je_var 0 rfl ⟨t, C, _, _, rfl, rfl, cl, nW, rd_words ws l (s + 1), je_op (je_fldC 0 (je_var 0 rfl ⟨t, C, _, _, rfl, rfl, cl, nS, rd_spot ws l (s + 1), je_int (opd_subI ⟨_, _, _, rfl, rfl, ?_, yes _ (List.getElem?_eq_getElem hlt) c2⟩)⟩))⟩))))
      have e2 : ((s + 1 : Nat) : Int) - 1 = (s : Nat) := by omega
      rw [e2]
      exact e0
end
end K28
end

section
set_option Elab.async false
set_option linter.all false
set_option maxRecDepth 100000
set_option maxHeartbeats 4000000
set_option pp.maxSteps 700
set_option hygiene false
open PySem PyProof.Rows L2 DL
namespace K28
open PySem PySem.Spec PyProof.Rows L2 DL TL DN
abbrev sIsNumeral : Stmt := top 11
def figs : Str := "0123456789"
def numTail (z : Str) : Bool := decide (z = "0") || !decide ((⟨#[z.cps.toList.headD 0]⟩ : Str) = "0")
def figAll (z : Str) : Bool := z.cps.toList.all fun c => decide (c ∈ figs.cps.toList)
def numB (z : Str) : Bool := decide (1 ≤ (z.length : Int)) && (decide ((z.length : Int) ≤ 40) && (figAll z && numTail z))
def spNumeral : DL.Spec := fun ds M Φ _ => ∃ z : Str, ds = [.str z] ∧ M = [] ∧ z.length ≤ 1000000 ∧ Φ (.bl (numB z)) []
theorem use_num {M : Mem} {Φ : D → Mem → Prop} {Ψ : XP} {z : Str} (hl : z.length ≤ 1000000) (h : Φ (.bl (numB z)) M) : Use spNumeral [.str z] M Φ Ψ := .none ⟨z, rfl, rfl, hl, h⟩
section
variable {X : Cx} {Γ : Sl} {M : Mem} {Φ : D → Mem → Prop} {Ψ : XP}
theorem figs_ask {scope : Scope} {tg elt : Expr} {vs : List Nat} {z : Str} (hl : z.length ≤ 1000000) (hq : Φ (.lst ((z.cps.toList.map fun c => decide (c ∈ figs.cps.toList)).map D.bl)) M)
    (h : ∀ c, ∃ is ds, (∀ i ∈ is, i ∈ vs) ∧ Blks X scope (fun Y => JC Y tg (.str ⟨#[c]⟩) is ds) ∧ Blks X scope fun Z => JE Z (setD (wipeD Γ vs) is ds) M elt (fun d M4 => d = .bl (decide (c ∈ figs.cps.toList)) ∧ M4 = M) noX) : LcAsk X Γ scope vs tg [] elt Φ (z.cps.toList.map fun c => .str ⟨#[c]⟩) M := by
  have hz : z.cps.toList.length ≤ 1000000 := by
    have e : z.length = z.cps.toList.length := by simp [Str.length]
    omega
  refine lc_map (fun x => match x with | .str s => .bl (decide (s.cps.toList.headD 0 ∈ figs.cps.toList)) | _ => .non) (by rw [List.length_map]; exact hz) ?_ fun x hx => ?_
  · have e : (z.cps.toList.map fun c => D.str ⟨#[c]⟩).map (fun x => match x with | .str s => D.bl (decide (s.cps.toList.headD 0 ∈ figs.cps.toList)) | _ => .non) = (z.cps.toList.map fun c => decide (c ∈ figs.cps.toList)).map D.bl := by
      rw [List.map_map, List.map_map]
      rfl
    rw [e]
    exact hq
  · obtain ⟨c, _, rfl⟩ := List.mem_map.mp hx
    exact h c
end
section
variable {P : Program} {w : World} {K : PySem.W.Frag} {mg : Str → Option Value} {base : Heap} {f : Addr} {fd : FuncData} {C CT : Addr}
theorem scIsNumeral : FnScope ["word", "sign"] ["word"] (defScope sIsNumeral) := ⟨rfl, rfl, rfl, by decide +kernel, rfl, by decide +kernel, by decide +kernel⟩
theorem ok_isNumeral (F : Fun K "is_numeral" "is_numeral" sIsNumeral f fd) (b : Bn mg) {t1 t2 : Tok} (hF : mg "FIGURES" = some (.str figs t1)) (hL : mg "LONGEST" = some (.int 40 t2)) : FnOk P w K mg base (L2.CX P w) 1 f fd ["word"] (spD K spNumeral) := by
  refine fn_d F scIsNumeral (fun ds M Φ Ψ h => ?_) (fun cdv A outer s H E hr ds M Φ Ψ h => ?_)
  · obtain ⟨z, rfl, _⟩ := h
    rfl
  · obtain ⟨z, rfl, rfl, hl, h⟩ := h
    have nd := scIsNumeral.nd
    unfold numB at h
    show JSs _ [some (.str z), none] [] _ _
    refine jss_cons (js_if (jt_w (jw_or (jt_not (jt_chain (je_int (je_len b.len (je_var 0 rfl ⟨_, .inr (.inr (.inl ⟨z, rfl, hl, rfl⟩)), opd_leI ⟨_, rfl, ?_⟩⟩))))))))
    refine ite_2 (fun c1 => je_glob (v := .int 40) (d := .int 40) hL ⟨t2, rfl⟩ (fun _ => .int _) (opd_leI ⟨_, rfl, ?_⟩)) fun c1 => ?_
    · rw [c1] at h
      refine ite_2 (fun c2 => ?_) fun c2 => ?_
      · refine ite_t rfl (jss_one (js_ret (je_bl ?_)))
        rw [Bool.not_eq_true'] at c2
        rw [c2] at h
        exact h
      · rw [Bool.not_eq_false'] at c2
        rw [c2] at h
        refine jw_or1 (jt_not (jt_val (je_callB b.all boot_all (ja_cons (je_lc (own := [("sign", 1)]) nd blk_ok (ji_str (je_var 0 rfl ⟨z, rfl, ?_⟩)))))))
        refine figs_ask hl ?_ fun c => ?_
        · refine ja_nil (cd_all rfl ?_)
          rw [List.all_map]
          refine ⟨_, rfl, ite_2 (fun c3 => ?_) fun c3 => ?_⟩
          · rw [Bool.not_eq_true'] at c3
            have c3' : figAll z = false := c3
            rw [c3'] at h
            exact jss_one (js_ret (je_bl h))
          · rw [Bool.not_eq_false'] at c3
            have c3' : figAll z = true := c3
            rw [c3'] at h
            refine jss_nil (jss_one (js_ret ?_))
            show JE _ [some (.str z), none] [] _ _ _
            have h : Φ (.bl (decide (z = "0") || !decide ((⟨#[z.cps.toList.headD 0]⟩ : Str) = "0"))) [] := h
            refine je_or (je_cmp (je_var 0 rfl (je_str (opd_eqS ⟨_, rfl, ?_⟩))))
            refine ite_2 (fun c4 => ?_) fun c4 => ?_
            · rw [c4] at h
              exact h
            · rw [c4] at h
              exact je_one (je_cmp (je_ixS (je_var 0 rfl (je_int ⟨z, 0, _, rfl, rfl, hl, DN.at_head z (of_decide_eq_true c1), je_str (opd_neS h)⟩))))
        · refine ⟨[1], [_], by decide, fun s H C cl fp => jc_name 1 nd, fun s H C cl fp => ?_⟩
          show JE _ [some (.str z), some (.str ⟨#[c]⟩)] _ _ _ _
          exact je_cmp (je_var 1 rfl (je_glob (v := .str figs) (d := .str figs) hF ⟨t1, rfl⟩ (fun _ => .str _) (opd_inS ⟨rfl, rfl⟩)))
    · rw [c1] at h
      exact ite_t rfl (ite_t rfl (jss_one (js_ret (je_bl h))))
end
end K28
end

section
set_option Elab.async false
set_option linter.all false
set_option maxRecDepth 100000
set_option maxHeartbeats 4000000
set_option pp.maxSteps 700
set_option hygiene false
open PySem PyProof.Rows L2 DL
namespace K28
open PySem PySem.Spec PyProof.Rows L2 DL TL DN
/-! numerals -/
def valN (z : Str) : Int := (intText? z).getD 0
theorem mem_figs {c : Nat} : c ∈ figs.cps.toList ↔ 48 ≤ c ∧ c ≤ 57 := by
  have e : figs.cps.toList = (List.range 10).map (48 + ·) := by decide +kernel
  rw [e, List.mem_map]
  constructor
  · rintro ⟨i, hi, rfl⟩
    have := List.mem_range.mp hi
    omega
  · rintro ⟨h1, h2⟩
    exact ⟨c - 48, List.mem_range.mpr (by omega), by omega⟩
theorem dig_lt : ∀ (cs : List Nat) (a : Nat), NumText.AllDigits cs → cs.foldl (fun acc c => acc * 10 + (c - 48)) a < (a + 1) * 10 ^ cs.length
  | [], a, _ => by simp
  | c :: cs, a, h => by
    have hc := h c List.mem_cons_self
    have ih := dig_lt cs (a * 10 + (c - 48)) fun d hd => h d (List.mem_cons_of_mem _ hd)
    rw [List.foldl_cons, List.length_cons]
    refine Nat.lt_of_lt_of_le ih ?_
    rw [Nat.pow_succ, Nat.mul_comm (10 ^ cs.length) 10, ← Nat.mul_assoc]
    exact Nat.mul_le_mul_right _ (by omega)
theorem len_str (z : Str) : z.length = z.cps.toList.length := by simp [Str.length]
theorem num_val {z : Str} (h : numB z = true) : intText? z = some (valN z) ∧ 0 ≤ valN z ∧ valN z ≤ MOST ∧ z.length ≤ 640 := by
  unfold numB at h
  simp only [Bool.and_eq_true, decide_eq_true_eq] at h
  obtain ⟨h1, h2, h3, _⟩ := h
  have hd : NumText.AllDigits z.cps.toList := fun c hc => mem_figs.mp (of_decide_eq_true (List.all_eq_true.mp h3 c hc))
  have hne : z.cps.toList ≠ [] := fun e => by
    rw [len_str, e] at h1
    simp at h1
  have e := intText_digits hd hne (by omega)
  have ev : valN z = ((NumText.digitsVal z.cps.toList : Nat) : Int) := by
    unfold valN
    rw [e]
    rfl
  have hb := dig_lt z.cps.toList 0 hd
  have hb2 : NumText.digitsVal z.cps.toList < 10 ^ z.cps.toList.length := by simpa [NumText.digitsVal] using hb
  have hb3 : (10 : Nat) ^ z.cps.toList.length ≤ 10 ^ 40 := Nat.pow_le_pow_right (by decide) (by rw [← len_str]; omega)
  refine ⟨by rw [ev]; exact e, by omega, ?_, by omega⟩
  rw [ev]
  have e40 : MOST = ((10 ^ 40 : Nat) : Int) - 1 := by decide +kernel
  rw [e40]
  omega
/-! the methods that hand closures -/
def wok (ws : List Str) : Prop := ws.length ≤ 100000 ∧ ∀ z ∈ ws, z.length ≤ 1000000
def qNeed : Str := (envOfC "Reader.need" (defScope sNeed) 0 0 .none).qual ++ "<lambda>"
def qName : Str := (envOfC "Reader.need_name" (defScope sNeedName) 0 0 .none).qual ++ "<lambda>"
def qNum : Str := (envOfC "Reader.need_number" (defScope sNeedNum) 0 0 .none).qual ++ "<lambda>"
def okT (d : D) : Prop := ∃ z : Str, d = .str z ∧ z.length ≤ 1000000
theorem wok_T {ws : List Str} (h : wok ws) : ∀ z ∈ ws, okT (.str z) := fun z hz => ⟨z, rfl, h.2 z hz⟩
def spNeed (C CT PT : Addr) : DL.Spec := fun ds M Φ Ψ => ∃ t ws l s a, ds = [.raw (.ref t), .tup [.str a]] ∧ M = [(t, .ins C (rdF ws l s)), (PT, .tab qNeed)] ∧ wok ws ∧ s ≤ ws.length ∧
  (ws[s]? = some a → Φ (.str a) [(t, .ins C (rdF ws l (s + 1))), (PT, .tab qNeed)]) ∧ (ws[s]? ≠ some a → Ψ (exText CT (l + 1) (s + 1)) M)
def spNeedName (C CT PT : Addr) : DL.Spec := fun ds M Φ Ψ => ∃ t ws l s, ds = [.raw (.ref t), .tup []] ∧ M = [(t, .ins C (rdF ws l s)), (PT, .tab qName)] ∧ wok ws ∧ s ≤ ws.length ∧
  (∀ z, ws[s]? = some z → isName (.str z) = true → Φ (.str z) [(t, .ins C (rdF ws l (s + 1))), (PT, .tab qName)]) ∧ ((∀ z, ws[s]? = some z → isName (.str z) = false) → Ψ (exText CT (l + 1) (s + 1)) M)
def spNeedNum (C CT PT : Addr) : DL.Spec := fun ds M Φ Ψ => ∃ t ws l s, ds = [.raw (.ref t), .int 0, .non] ∧ M = [(t, .ins C (rdF ws l s)), (PT, .tab qNum)] ∧ wok ws ∧ s ≤ ws.length ∧
  (∀ z, ws[s]? = some z → numB z = true → Φ (.int (valN z)) [(t, .ins C (rdF ws l (s + 1))), (PT, .tab qNum)]) ∧ ((∀ z, ws[s]? = some z → numB z = false) → Ψ (exText CT (l + 1) (s + 1)) M)
section
variable {P : Program} {w : World} {K : PySem.W.Frag} {mg : Str → Option Value} {base : Heap} {f : Addr} {fd : FuncData} {C CT PT c0 : Addr}
theorem scNeed : FnScope ["self", "some"] ["self", "some"] (defScope sNeed) := ⟨rfl, rfl, rfl, by decide +kernel, rfl, by decide +kernel, by decide +kernel⟩
theorem ok_need (F : Fun K "need" "Reader.need" sNeed f fd) (hcode : fd.code = .ref c0) (tb : LamX.TabB base mg c0 PT) (gT : GMeL P w K mg base 4 C "take" (tTake C CT)) : FnOk P w K mg base (L2.CX P w) 6 f fd ["self", "some"] (spD K (spNeed C CT PT)) := by
  refine fn_dk F scNeed (fun ds M Φ Ψ h => ?_) (fun cdv A outer s0 H E hr ec ds M Φ Ψ h => ?_)
  · obtain ⟨_, _, _, _, _, rfl, _⟩ := h
    rfl
  · obtain ⟨t, ws, l, s, a, rfl, rfl, hw, hs, yes, no⟩ := h
    obtain rfl : cdv = .ref c0 := ec.symm.trans hcode
    show JSs _ [some (.raw (.ref t)), some (.tup [.str a])] [(t, .ins C (rdF ws l s)), (PT, .tab qNeed)] _ _
    refine jss_one (js_ret (je_lamM (x := "word") (kk := 3) (kt := 1) (kr := 0) (p := fun d => match d with | .str z => decide (z = a) | _ => false) (ok := okT) gT hr tb rfl rfl (lamS1_by (sc := defScope sNeed) (by decide +kernel)) (show ("word" : Str) ∉ (["self", "some"] : List Str) by decide) rfl rfl (rd_no (by decide) (by decide) (by decide)) (je_var 0 rfl ⟨rfl, rfl⟩) (fun A2 o2 s2 H2 E2 c1 f2 L2 d hd hr2 e2 => ?_) ?_))
    · subst e2
      obtain ⟨z, rfl, hz⟩ := hd
      show JE _ [some (.raw (.ref t)), some (.tup [.str a]), some (.str z)] _ _ _ _
      refine je_cmp (je_var 2 rfl (je_var 1 rfl (opd_inT (ys := [a]) ⟨?_, rfl⟩)))
      show D.bl (decide (z ∈ [a])) = D.bl (decide (z = a))
      congr 1
      rw [decide_eq_decide]
      simp
    · refine ⟨ws, l, s, PT, qNeed, rfl, hw.1, hs, wok_T hw, fun z hz hp => ?_, fun hn => ?_⟩
      · obtain rfl : z = a := of_decide_eq_true hp
        exact yes hz
      · refine no fun e => ?_
        have := hn a e
        simp at this
theorem scNeedName : FnScope ["self", "taken"] ["self", "taken"] (defScope sNeedName) := ⟨rfl, rfl, rfl, by decide +kernel, rfl, by decide +kernel, by decide +kernel⟩
theorem ok_needName {dvs : List V} {kws : List (Str × V)} (F : FunD K "need_name" "Reader.need_name" (defArgs sNeedName) (defBody sNeedName) (defScope sNeedName) dvs kws f fd) (hcode : fd.code = .ref c0) (tb : LamX.TabB base mg c0 PT) (gT : GMeL P w K mg base 4 C "take" (tTake C CT)) (gN : GFn P w K mg base 1 "is_name" [] spName) : FnOk P w K mg base (L2.CX P w) 6 f fd ["self", "taken"] (spD K (spNeedName C CT PT)) := by
  refine fn_dDk F scNeedName (fun ds M Φ Ψ h => ?_) (fun cdv A outer s0 H E hr ec ds M Φ Ψ h => ?_)
  · obtain ⟨_, _, _, _, rfl, _⟩ := h
    rfl
  · obtain ⟨t, ws, l, s, rfl, rfl, hw, hs, yes, no⟩ := h
    obtain rfl : cdv = .ref c0 := ec.symm.trans hcode
    show JSs _ [some (.raw (.ref t)), some (.tup [])] [(t, .ins C (rdF ws l s)), (PT, .tab qName)] _ _
    refine jss_one (js_ret (je_lamM (x := "word") (kk := 3) (kt := 1) (kr := 0) (p := isName) (ok := okT) gT hr tb rfl rfl (lamS1_by (sc := defScope sNeedName) (by decide +kernel)) (show ("word" : Str) ∉ (["self", "taken"] : List Str) by decide) rfl rfl (rd_no (by decide) (by decide) (by decide)) (je_var 0 rfl ⟨rfl, rfl⟩) (fun A2 o2 s2 H2 E2 c1 f2 L2 d hd hr2 e2 => ?_) ?_))
    · subst e2
      obtain ⟨z, rfl, hz⟩ := hd
      show JE _ [some (.raw (.ref t)), some (.tup []), some (.str z)] _ _ _ _
      refine je_and (je_call gN (hr2.mono (by decide)) (ja_cons (je_var 2 rfl (ja_nil (use_name ⟨⟨_, rfl⟩, fun y hy => by cases hy; exact hz⟩ ⟨_, rfl, ?_⟩)))))
      refine ite_2 (fun c => ?_) fun c => ?_
      · rw [c]
        exact je_one (je_cmp (je_var 2 rfl (je_var 1 rfl (opd_notInT (ys := []) ⟨by simp, rfl⟩))))
      · rw [c]
        exact ⟨rfl, rfl⟩
    · exact ⟨ws, l, s, PT, qName, rfl, hw.1, hs, wok_T hw, yes, no⟩
theorem scNeedNum : FnScope ["self", "least", "most", "word"] ["self", "least", "most"] (defScope sNeedNum) := ⟨rfl, rfl, rfl, by decide +kernel, rfl, by decide +kernel, by decide +kernel⟩
theorem ok_needNum {dvs : List V} {kws : List (Str × V)} (F : FunD K "need_number" "Reader.need_number" (defArgs sNeedNum) (defBody sNeedNum) (defScope sNeedNum) dvs kws f fd) (hcode : fd.code = .ref c0) (tb : LamX.TabB base mg c0 PT) (b : Bn mg) (gT : GMeL P w K mg base 4 C "take" (tTake C CT)) (gN : GFn P w K mg base 1 "is_numeral" [] spNumeral) : FnOk P w K mg base (L2.CX P w) 6 f fd ["self", "least", "most"] (spD K (spNeedNum C CT PT)) := by
  refine fn_dDk F scNeedNum (fun ds M Φ Ψ h => ?_) (fun cdv A outer s0 H E hr ec ds M Φ Ψ h => ?_)
  · obtain ⟨_, _, _, _, rfl, _⟩ := h
    rfl
  · obtain ⟨t, ws, l, s, rfl, rfl, hw, hs, yes, no⟩ := h
    obtain rfl : cdv = .ref c0 := ec.symm.trans hcode
    have nd := scNeedNum.nd
    show JSs _ [some (.raw (.ref t)), some (.int 0), some .non, none] [(t, .ins C (rdF ws l s)), (PT, .tab qNum)] _ _
    refine jss_cons (js_set (hN := nd) 3 (je_lamM (x := "one") (kk := 3) (kt := 1) (kr := 0) (p := fun d => match d with | .str z => numB z | _ => false) (ok := okT) gT hr tb rfl rfl (lamS1_by (sc := defScope sNeedNum) (by decide +kernel)) (show ("one" : Str) ∉ (["self", "least", "most", "word"] : List Str) by decide) rfl rfl (rd_no (by decide) (by decide) (by decide)) (je_var 0 rfl ⟨rfl, rfl⟩) (fun A2 o2 s2 H2 E2 c1 f2 L2 d hd hr2 e2 => ?_) ?_))
    · subst e2
      obtain ⟨z, rfl, hz⟩ := hd
      show JE _ [some (.raw (.ref t)), some (.int 0), some .non, none, some (.str z)] _ _ _ _
      refine je_and (je_call gN (hr2.mono (by decide)) (ja_cons (je_var 4 rfl (ja_nil (use_num hz ⟨_, rfl, ?_⟩)))))
      refine ite_2 (fun c => ?_) fun c => ?_
      · obtain ⟨v1, v2, v3, v4⟩ := num_val c
        refine je_and (je_cmp (je_var 1 rfl (je_callT b.int boot_int (ja_cons (je_var 4 rfl (ja_nil (cd_intS v1 v4 (opd_leI ⟨_, rfl, ?_⟩))))))))
        refine ite_t (decide_eq_true v2) ?_
        refine je_one (je_or (je_cmp (je_var 2 rfl (je_non (opd_isN (by simp) ⟨_, rfl, ite_t rfl ⟨?_, rfl⟩⟩)))))
        exact (congrArg D.bl c).symm
      · exact ⟨(congrArg D.bl c).symm, rfl⟩
    · refine ⟨ws, l, s, PT, qNum, rfl, hw.1, hs, wok_T hw, fun z hz hp => ?_, no⟩
      have hp : numB z = true := hp
      obtain ⟨v1, v2, v3, v4⟩ := num_val hp
      show JSs _ [some (.raw (.ref t)), some (.int 0), some .non, some (.str z)] _ _ _
      exact jss_one (js_ret (je_callT b.int boot_int (ja_cons (je_var 3 rfl (ja_nil (cd_intS v1 v4 (yes z hz hp)))))))
end
end K28
end

section
set_option Elab.async false
set_option linter.all false
set_option maxRecDepth 100000
set_option maxHeartbeats 4000000
set_option pp.maxSteps 700
set_option hygiene false
open PySem PyProof.Rows L2 DL
namespace K28
open PySem PySem.Spec PyProof.Rows L2 DL TL DN
abbrev sReadRow : Stmt := top 21
/-- the word at i is right -/
noncomputable def okAt (kvs : List (D × D)) (ws : List Str) (i : Nat) : Bool := match ws[i]? with
  | none => false
  | some z => match i with
    | 0 => decide (z = "at")
    | 1 => isName (.str z)
    | 2 => decide (z = "memory")
    | 3 => numB z && !(lkD kvs (.tup [.str (ws.getD 1 ""), .int (valN z)])).isSome
    | 4 => decide (z = "call")
    | 5 => isName (.str z)
    | 6 => decide (z = "told")
    | 7 => numB z
    | 8 => decide (z = "silent")
    | 9 => numB z
    | _ => false
/-- the place of the first wrong word, 0: none -/
noncomputable def wrong (kvs : List (D × D)) (ws : List Str) : Nat := match (List.range 10).find? fun i => !okAt kvs ws i with
  | some i => i + 1
  | none => if ws.length ≤ 10 then 0 else 11
noncomputable def rowD (ws : List Str) : D := .tup [.str (ws.getD 1 ""), .int (valN (ws.getD 3 "")), .str (ws.getD 5 ""), .int (valN (ws.getD 7 "")), .int (valN (ws.getD 9 ""))]
theorem find_first {p : Nat → Bool} {n i : Nat} (hi : i < n) (h1 : p i = true) (h0 : ∀ j, j < i → p j = false) : (List.range n).find? p = some i := by
  rw [List.find?_range_eq_some]
  exact ⟨h1, List.mem_range.mpr hi, fun j hj => by simp [h0 j hj]⟩
theorem wrong_at {kvs : List (D × D)} {ws : List Str} {i : Nat} (hi : i < 10) (h1 : okAt kvs ws i = false) (h0 : ∀ j, j < i → okAt kvs ws j = true) : wrong kvs ws = i + 1 := by
  unfold wrong
  rw [find_first hi (by rw [h1]; rfl) fun j hj => by rw [h0 j hj]; rfl]
theorem wrong_end {kvs : List (D × D)} {ws : List Str} (h0 : ∀ j, j < 10 → okAt kvs ws j = true) : wrong kvs ws = if ws.length ≤ 10 then 0 else 11 := by
  unfold wrong
  have e : (List.range 10).find? (fun i => !okAt kvs ws i) = none := by
    rw [List.find?_eq_none]
    intro j hj
    rw [h0 j (List.mem_range.mp hj)]
    decide
  rw [e]
theorem to_succ {q : Nat → Prop} {i : Nat} (h0 : ∀ j, j < i → q j) (h1 : q i) : ∀ j, j < i + 1 → q j := fun j hj => by
  by_cases e : j = i
  · rw [e]
    exact h1
  · exact h0 j (by omega)
theorem two_hk {M : Mem} {kr kt : Nat} {p q : Addr × Cell} (h1 : M[kr]? = some p) (h2 : M[kt]? = some q) : [kr, kt].map (fun j => M[j]?) = [p, q].map some := by
  simp [h1, h2]
section
variable {C CT PT t : Addr} {ws : List Str} {l s : Nat} {a : Str} {M : Mem} {Φ : D → Mem → Prop} {Ψ : XP}
theorem use_need (kr kt : Nat) (hr : M[kr]? = some (t, .ins C (rdF ws l s))) (ht : M[kt]? = some (PT, .tab qNeed)) (hne : kr ≠ kt) (hw : wok ws) (hs : s ≤ ws.length) (yes : ws[s]? = some a → Φ (.str a) ((M.set kr (t, .ins C (rdF ws l (s + 1)))).set kt (PT, .tab qNeed)))
    (no : ws[s]? ≠ some a → Ψ (exText CT (l + 1) (s + 1)) ((M.set kr (t, .ins C (rdF ws l s))).set kt (PT, .tab qNeed))) : Use (spNeed C CT PT) [.raw (.ref t), .tup [.str a]] M Φ Ψ :=
  .many [kr, kt] _ (two_hk hr ht) (by simpa using hne) ⟨t, ws, l, s, a, rfl, rfl, hw, hs, fun e _ => yes e, fun e _ => no e⟩
theorem use_nname (kr kt : Nat) (hr : M[kr]? = some (t, .ins C (rdF ws l s))) (ht : M[kt]? = some (PT, .tab qName)) (hne : kr ≠ kt) (hw : wok ws) (hs : s ≤ ws.length) (yes : ∀ z, ws[s]? = some z → isName (.str z) = true → Φ (.str z) ((M.set kr (t, .ins C (rdF ws l (s + 1)))).set kt (PT, .tab qName)))
    (no : (∀ z, ws[s]? = some z → isName (.str z) = false) → Ψ (exText CT (l + 1) (s + 1)) ((M.set kr (t, .ins C (rdF ws l s))).set kt (PT, .tab qName))) : Use (spNeedName C CT PT) [.raw (.ref t), .tup []] M Φ Ψ :=
  .many [kr, kt] _ (two_hk hr ht) (by simpa using hne) ⟨t, ws, l, s, rfl, rfl, hw, hs, fun z e1 e2 _ => yes z e1 e2, fun e _ => no e⟩
theorem use_nnum (kr kt : Nat) (hr : M[kr]? = some (t, .ins C (rdF ws l s))) (ht : M[kt]? = some (PT, .tab qNum)) (hne : kr ≠ kt) (hw : wok ws) (hs : s ≤ ws.length) (yes : ∀ z, ws[s]? = some z → numB z = true → Φ (.int (valN z)) ((M.set kr (t, .ins C (rdF ws l (s + 1)))).set kt (PT, .tab qNum)))
    (no : (∀ z, ws[s]? = some z → numB z = false) → Ψ (exText CT (l + 1) (s + 1)) ((M.set kr (t, .ins C (rdF ws l s))).set kt (PT, .tab qNum))) : Use (spNeedNum C CT PT) [.raw (.ref t), .int 0, .non] M Φ Ψ :=
  .many [kr, kt] _ (two_hk hr ht) (by simpa using hne) ⟨t, ws, l, s, rfl, rfl, hw, hs, fun z e1 e2 _ => yes z e1 e2, fun e _ => no e⟩
end
/-- the tables of the three methods -/
structure Tabs3 where
  need : Addr
  name : Addr
  num : Addr
abbrev Tabs3.mem (T : Tabs3) : Mem := [(T.need, .tab qNeed), (T.name, .tab qName), (T.num, .tab qNum)]
noncomputable def spReadRow (C CT : Addr) (T : Tabs3) : DL.Spec := fun ds M Φ Ψ => ∃ t m ws l kvs, ds = [.raw (.ref t), .raw (.ref m)] ∧ M = (t, .ins C (rdF ws l 0)) :: (m, .dT kvs) :: T.mem ∧ wok ws ∧
  (wrong kvs ws = 0 → ∀ s', Φ (rowD ws) ((t, .ins C (rdF ws l s')) :: (m, .dT kvs) :: T.mem)) ∧ (∀ n : Nat, wrong kvs ws = n + 1 → ∀ s', Ψ (exText CT (l + 1) (n + 1)) ((t, .ins C (rdF ws l s')) :: (m, .dT kvs) :: T.mem))
section
variable {P : Program} {w : World} {K : PySem.W.Frag} {mg : Str → Option Value} {base : Heap} {f : Addr} {fd : FuncData} {C CT : Addr} {T : Tabs3}
theorem scReadRow : FnScope ["reader", "met", "place", "memory", "call", "told", "silent"] ["reader", "met"] (defScope sReadRow) := ⟨rfl, rfl, rfl, by decide +kernel, rfl, by decide +kernel, by decide +kernel⟩
theorem ok_readRow (F : Fun K "read_row" "read_row" sReadRow f fd) (gR : GMe P w K mg base 3 C "refuse" [] (spRefuse C CT)) (gNeed : GMe P w K mg base 6 C "need" [] (spNeed C CT T.need)) (gName : GMe P w K mg base 6 C "need_name" [.tup []] (spNeedName C CT T.name)) (gNum : GMe P w K mg base 6 C "need_number" [.non] (spNeedNum C CT T.num)) (gEnd : GMe P w K mg base 5 C "need_end" [] (spNeedEnd C CT)) (cl : Cls K C) (nS : NoAttr K C "spot") : FnOk P w K mg base (L2.CX P w) 8 f fd ["reader", "met"] (spD K (spReadRow C CT T)) := by
  refine fn_d F scReadRow (fun ds M Φ Ψ h => ?_) (fun cdv A outer s H E hr ds M Φ Ψ h => ?_)
  · obtain ⟨_, _, _, _, _, rfl, _⟩ := h
    rfl
  · obtain ⟨t, m, ws, l, kvs, rfl, rfl, hw, yes, no⟩ := h
    have nd := scReadRow.nd
    have len : ∀ {i : Nat} {z : Str}, ws[i]? = some z → i + 1 ≤ ws.length := fun h => (List.getElem?_eq_some_iff.mp h).1
    have hi : ∀ i (m' : Str) (h1 : m' ≠ "words") (h2 : m' ≠ "line") (h3 : m' ≠ "spot"), InsAt ((t, Cell.ins C (rdF ws l i)) :: (m, .dT kvs) :: T.mem) C m' (.raw (.ref t)) := fun i m' h1 h2 h3 => .inr ⟨0, t, _, rfl, rfl, rd_no h1 h2 h3⟩
    have o0 : ∀ j, j < 0 → okAt kvs ws j = true := fun j hj => by omega
    show JSs _ [some (.raw (.ref t)), some (.raw (.ref m)), none, none, none, none, none] ((t, .ins C (rdF ws l 0)) :: (m, .dT kvs) :: T.mem) _ _
    refine jss_cons (js_expr (je_meth gNeed (hr.mono (by decide)) (je_var 0 rfl ⟨hi 0 "need" (by decide) (by decide) (by decide), ja_cons (je_tup (ja_cons (je_str (ja_nil ⟨by simp, ja_nil (use_need 0 2 rfl rfl (by decide) hw (Nat.zero_le _) (fun z0 => ?_) fun z0 => ?_)⟩))))⟩)))
    rotate_left
    · exact no 0 (wrong_at (by decide) (by
        unfold okAt
        cases q : ws[0]? with
        | none => rfl
        | some z => exact decide_eq_false fun e => z0 (by rw [q, e])) o0) 0
    have o1 := to_succ o0 (show okAt kvs ws 0 = true by unfold okAt; rw [z0]; exact decide_eq_true rfl)
    show JSs _ [some (.raw (.ref t)), some (.raw (.ref m)), none, none, none, none, none] ((t, .ins C (rdF ws l 1)) :: (m, .dT kvs) :: T.mem) _ _
    refine jss_cons (js_set (hN := nd) 2 (je_meth0 gName (hr.mono (by decide)) (je_var 0 rfl ⟨hi 1 "need_name" (by decide) (by decide) (by decide), use_nname 0 3 rfl rfl (by decide) hw (len z0) (fun a z1 y1 => ?_) fun z1 => ?_⟩)))
    rotate_left
    · exact no 1 (wrong_at (by decide) (by
        unfold okAt
        cases q : ws[1]? with
        | none => rfl
        | some z => exact z1 z q) o1) 1
    have o2 := to_succ o1 (show okAt kvs ws 1 = true by unfold okAt; rw [z1]; exact y1)
    show JSs _ [some (.raw (.ref t)), some (.raw (.ref m)), some (.str a), none, none, none, none] ((t, .ins C (rdF ws l 2)) :: (m, .dT kvs) :: T.mem) _ _
    refine jss_cons (js_expr (je_meth gNeed (hr.mono (by decide)) (je_var 0 rfl ⟨hi 2 "need" (by decide) (by decide) (by decide), ja_cons (je_tup (ja_cons (je_str (ja_nil ⟨by simp, ja_nil (use_need 0 2 rfl rfl (by decide) hw (len z1) (fun z2 => ?_) fun z2 => ?_)⟩))))⟩)))
    rotate_left
    · exact no 2 (wrong_at (by decide) (by
        unfold okAt
        cases q : ws[2]? with
        | none => rfl
        | some z => exact decide_eq_false fun e => z2 (by rw [q, e])) o2) 2
    have o3 := to_succ o2 (show okAt kvs ws 2 = true by unfold okAt; rw [z2]; exact decide_eq_true rfl)
    show JSs _ [some (.raw (.ref t)), some (.raw (.ref m)), some (.str a), none, none, none, none] ((t, .ins C (rdF ws l 3)) :: (m, .dT kvs) :: T.mem) _ _
    refine jss_cons (js_set (hN := nd) 3 (je_meth gNum (hr.mono (by decide)) (je_var 0 rfl ⟨hi 3 "need_number" (by decide) (by decide) (by decide), ja_cons (je_int (ja_nil (use_nnum 0 4 rfl rfl (by decide) hw (len z2) (fun b z3 y3 => ?_) fun z3 => ?_)))⟩)))
    rotate_left
    · exact no 3 (wrong_at (by decide) (by
        unfold okAt
        cases q : ws[3]? with
        | none => rfl
        | some z => exact (by rw [z3 z q]; rfl : (numB z && _) = false)) o3) 3
    show JSs _ [some (.raw (.ref t)), some (.raw (.ref m)), some (.str a), some (.int (valN b)), none, none, none] ((t, .ins C (rdF ws l 4)) :: (m, .dT kvs) :: T.mem) _ _
    have g1 : ws.getD 1 "" = a := by rw [List.getD_eq_getElem?_getD, z1]; rfl
    have e3 : okAt kvs ws 3 = !(lkD kvs (.tup [.str a, .int (valN b)])).isSome := by
      unfold okAt
      rw [z3]
      show (numB b && !(lkD kvs (.tup [.str (ws.getD 1 ""), .int (valN b)])).isSome) = _
      rw [y3, g1, Bool.true_and]
    refine jss_cons (js_if (jt_in_dic (u1 hr) (je_tup (ja_cons (je_var 2 rfl (ja_cons (je_var 3 rfl (ja_nil ⟨by simp, je_var 1 rfl ⟨_, .inr ⟨kvs, [.inr a, .inl (valN b)], .inr ⟨1, m, rfl, rfl⟩, List.cons_ne_nil _ _, rfl, rfl⟩, ?_⟩⟩))))))))
    refine ite_2 (fun c => ?_) fun c => ?_
    · rw [c] at e3
      refine jss_cons (js_fldsubI 0 (je_var 0 rfl ⟨t, C, _, _, rfl, rfl, cl, nS, rd_spot ws l 4, je_int ⟨_, _, rfl, rfl, show 3 < 900 by decide, ?_⟩⟩))
      have e1 : putD "spot" (.int (((4 : Nat) : Int) - 1)) (rdF ws l 4) = rdF ws l 3 := put_spot ws l 4 3
      show JSs _ [some (.raw (.ref t)), some (.raw (.ref m)), some (.str a), some (.int (valN b)), none, none, none] ((t, .ins C (putD "spot" (.int (((4 : Nat) : Int) - 1)) (rdF ws l 4))) :: (m, .dT kvs) :: T.mem) _ _
      rw [e1]
      exact jss_one (js_expr (je_meth0 gR (hr.mono (by decide)) (je_var 0 rfl ⟨hi 3 "refuse" (by decide) (by decide) (by decide), use_refuse 0 rfl (no 3 (wrong_at (by decide) e3 o3) 3)⟩)))
    rw [c] at e3
    have o4 := to_succ o3 e3
    refine jss_nil ?_
    show JSs _ [some (.raw (.ref t)), some (.raw (.ref m)), some (.str a), some (.int (valN b)), none, none, none] ((t, .ins C (rdF ws l 4)) :: (m, .dT kvs) :: T.mem) _ _
    refine jss_cons (js_expr (je_meth gNeed (hr.mono (by decide)) (je_var 0 rfl ⟨hi 4 "need" (by decide) (by decide) (by decide), ja_cons (je_tup (ja_cons (je_str (ja_nil ⟨by simp, ja_nil (use_need 0 2 rfl rfl (by decide) hw (len z3) (fun z4 => ?_) fun z4 => ?_)⟩))))⟩)))
    rotate_left
    · exact no 4 (wrong_at (by decide) (by
        unfold okAt
        cases q : ws[4]? with
        | none => rfl
        | some z => exact decide_eq_false fun e => z4 (by rw [q, e])) o4) 4
    have o5 := to_succ o4 (show okAt kvs ws 4 = true by unfold okAt; rw [z4]; exact decide_eq_true rfl)
    show JSs _ [some (.raw (.ref t)), some (.raw (.ref m)), some (.str a), some (.int (valN b)), none, none, none] ((t, .ins C (rdF ws l 5)) :: (m, .dT kvs) :: T.mem) _ _
    refine jss_cons (js_set (hN := nd) 4 (je_meth0 gName (hr.mono (by decide)) (je_var 0 rfl ⟨hi 5 "need_name" (by decide) (by decide) (by decide), use_nname 0 3 rfl rfl (by decide) hw (len z4) (fun c1 z5 y5 => ?_) fun z5 => ?_⟩)))
    rotate_left
    · exact no 5 (wrong_at (by decide) (by
        unfold okAt
        cases q : ws[5]? with
        | none => rfl
        | some z => exact z5 z q) o5) 5
    have o6 := to_succ o5 (show okAt kvs ws 5 = true by unfold okAt; rw [z5]; exact y5)
    show JSs _ [some (.raw (.ref t)), some (.raw (.ref m)), some (.str a), some (.int (valN b)), some (.str c1), none, none] ((t, .ins C (rdF ws l 6)) :: (m, .dT kvs) :: T.mem) _ _
    refine jss_cons (js_expr (je_meth gNeed (hr.mono (by decide)) (je_var 0 rfl ⟨hi 6 "need" (by decide) (by decide) (by decide), ja_cons (je_tup (ja_cons (je_str (ja_nil ⟨by simp, ja_nil (use_need 0 2 rfl rfl (by decide) hw (len z5) (fun z6 => ?_) fun z6 => ?_)⟩))))⟩)))
    rotate_left
    · exact no 6 (wrong_at (by decide) (by
        unfold okAt
        cases q : ws[6]? with
        | none => rfl
        | some z => exact decide_eq_false fun e => z6 (by rw [q, e])) o6) 6
    have o7 := to_succ o6 (show okAt kvs ws 6 = true by unfold okAt; rw [z6]; exact decide_eq_true rfl)
    show JSs _ [some (.raw (.ref t)), some (.raw (.ref m)), some (.str a), some (.int (valN b)), some (.str c1), none, none] ((t, .ins C (rdF ws l 7)) :: (m, .dT kvs) :: T.mem) _ _
    refine jss_cons (js_set (hN := nd) 5 (je_meth gNum (hr.mono (by decide)) (je_var 0 rfl ⟨hi 7 "need_number" (by decide) (by decide) (by decide), ja_cons (je_int (ja_nil (use_nnum 0 4 rfl rfl (by decide) hw (len z6) (fun d1 z7 y7 => ?_) fun z7 => ?_)))⟩)))
    rotate_left
    · exact no 7 (wrong_at (by decide) (by
        unfold okAt
        cases q : ws[7]? with
        | none => rfl
        | some z => exact z7 z q) o7) 7
    have o8 := to_succ o7 (show okAt kvs ws 7 = true by unfold okAt; rw [z7]; exact y7)
    show JSs _ [some (.raw (.ref t)), some (.raw (.ref m)), some (.str a), some (.int (valN b)), some (.str c1), some (.int (valN d1)), none] ((t, .ins C (rdF ws l 8)) :: (m, .dT kvs) :: T.mem) _ _
    refine jss_cons (js_expr (je_meth gNeed (hr.mono (by decide)) (je_var 0 rfl ⟨hi 8 "need" (by decide) (by decide) (by decide), ja_cons (je_tup (ja_cons (je_str (ja_nil ⟨by simp, ja_nil (use_need 0 2 rfl rfl (by decide) hw (len z7) (fun z8 => ?_) fun z8 => ?_)⟩))))⟩)))
    rotate_left
    · exact no 8 (wrong_at (by decide) (by
        unfold okAt
        cases q : ws[8]? with
        | none => rfl
        | some z => exact decide_eq_false fun e => z8 (by rw [q, e])) o8) 8
    have o9 := to_succ o8 (show okAt kvs ws 8 = true by unfold okAt; rw [z8]; exact decide_eq_true rfl)
    show JSs _ [some (.raw (.ref t)), some (.raw (.ref m)), some (.str a), some (.int (valN b)), some (.str c1), some (.int (valN d1)), none] ((t, .ins C (rdF ws l 9)) :: (m, .dT kvs) :: T.mem) _ _
    refine jss_cons (js_set (hN := nd) 6 (je_meth gNum (hr.mono (by decide)) (je_var 0 rfl ⟨hi 9 "need_number" (by decide) (by decide) (by decide), ja_cons (je_int (ja_nil (use_nnum 0 4 rfl rfl (by decide) hw (len z8) (fun e1 z9 y9 => ?_) fun z9 => ?_)))⟩)))
    rotate_left
    · exact no 9 (wrong_at (by decide) (by
        unfold okAt
        cases q : ws[9]? with
        | none => rfl
        | some z => exact z9 z q) o9) 9
    have o10 := to_succ o9 (show okAt kvs ws 9 = true by unfold okAt; rw [z9]; exact y9)
    show JSs _ [some (.raw (.ref t)), some (.raw (.ref m)), some (.str a), some (.int (valN b)), some (.str c1), some (.int (valN d1)), some (.int (valN e1))] ((t, .ins C (rdF ws l 10)) :: (m, .dT kvs) :: T.mem) _ _
    have we := wrong_end o10
    refine jss_cons (js_expr (je_meth0 gEnd (hr.mono (by decide)) (je_var 0 rfl ⟨hi 10 "need_end" (by decide) (by decide) (by decide), use_end 0 rfl hw.1 (fun q => ?_) fun q => ?_⟩)))
    · rw [if_pos q] at we
      refine jss_one (js_ret (je_tup (ja_cons (je_var 2 rfl (ja_cons (je_var 3 rfl (ja_cons (je_var 4 rfl (ja_cons (je_var 5 rfl (ja_cons (je_var 6 rfl (ja_nil ⟨by simp, ?_⟩)))))))))))))
      have g3 : ws.getD 3 "" = b := by rw [List.getD_eq_getElem?_getD, z3]; rfl
      have g5 : ws.getD 5 "" = c1 := by rw [List.getD_eq_getElem?_getD, z5]; rfl
      have g7 : ws.getD 7 "" = d1 := by rw [List.getD_eq_getElem?_getD, z7]; rfl
      have g9 : ws.getD 9 "" = e1 := by rw [List.getD_eq_getElem?_getD, z9]; rfl
      have := yes we 10
      unfold rowD at this
      rw [g1, g3, g5, g7, g9] at this
      exact this
    · rw [if_neg (by omega)] at we
      exact no 10 we 10
end
end K28
end

section
set_option Elab.async false
set_option linter.all false
set_option maxRecDepth 100000
set_option maxHeartbeats 4000000
set_option pp.maxSteps 700
set_option hygiene false
open PySem PyProof.Rows L2 DL
namespace K28
open PySem PySem.Spec PyProof.Rows L2 DL TL DN
abbrev sTextInit : Stmt := inClass (top 3) 0
abbrev sLinesOf : Stmt := top 10
abbrev sPlanOf : Stmt := top 22
section
variable {P : Program} {w : World} {K : PySem.W.Frag} {mg : Str → Option Value} {base : Heap} {f : Addr} {fd : FuncData}
theorem scTextInit : FnScope ["self", "line", "word"] ["self", "line", "word"] (defScope sTextInit) := ⟨rfl, rfl, rfl, by decide +kernel, rfl, by decide +kernel, by decide +kernel⟩
theorem ok_tinit {CB : Addr} (F : Fun K "__init__" "BadText.__init__" sTextInit f fd) (T : OexC K CB) (h1 : PySem.W.findIn K (.ref CB) "line" = some none) (h2 : PySem.W.findIn K (.ref CB) "word" = some none) : FnOk P w K mg base (L2.CX P w) 1 f fd ["self", "line", "word"] (spXi CB ["line", "word"]) :=
  ok_xi2 F scTextInit T h1 h2 rfl rfl rfl rfl (by decide) (by decide) (by decide) (by decide) (fun _ => rfl) (fun _ => rfl)
theorem scLinesOf : FnScope ["text", "line"] ["text"] (defScope sLinesOf) := ⟨rfl, rfl, rfl, by decide +kernel, rfl, by decide +kernel, by decide +kernel⟩
theorem ok_linesOf {CT : Addr} (F : Fun K "lines_of" "lines_of" sLinesOf f fd) (b : Bn mg) (gT : GXc P w K mg base 1 "BadText" CT ["line", "word"]) : FnOk P w K mg base (L2.CX P w) 3 f fd ["text"] (spD K (spRowsOf CT)) := by
  refine fn_d F scLinesOf (fun ds M Φ Ψ h => ?_) (fun cdv A outer s H E hr ds M Φ Ψ h => ?_)
  · obtain ⟨_, _, rfl, _⟩ := h
    rfl
  · obtain ⟨d, n, rfl, rfl, hn, no, yes⟩ := h
    have nd := scLinesOf.nd
    show JSs _ [some d, none] [] _ _
    cases d with
    | ins => cases hn
    | raw => cases hn
    | exc => cases hn
    | cl => cases hn
    | str z =>
      obtain ⟨h1, h2, h3, h4⟩ := yes z rfl
      refine jss_cons (js_if (jt_not (jt_val (je_isi b.isinstance b.str boot_str (by decide) (je_var 0 rfl ⟨n, hn, _, rfl, ite_f rfl (jss_nil ?_)⟩)))))
      refine jss_one (js_ret (je_lc (own := [("line", 1)]) nd blk_ok (ji_list (je_m PySem.F.plainAttrs_str PySem.F.slot_str_split PySem.F.type_str_split (je_var 0 rfl ⟨.inl ⟨rfl, _, rfl⟩, ja_cons (je_str (ja_nil (md_split rfl (by omega) ⟨_, rfl, ?_⟩)))⟩)))))
      refine lc_map (fun x => match x with | .str y => .lst ((Txt.split y (" " : Str)).map .str) | _ => .non) (by rw [List.length_map]; omega) ?_ fun x hx => ?_
      · have e : ((Txt.split z ("\n" : Str)).map D.str).map (fun x => match x with | .str y => D.lst ((Txt.split y (" " : Str)).map D.str) | _ => D.non) = (DN.linesOf z).map fun r => D.lst (r.map D.str) := by
          unfold DN.linesOf
          rw [List.map_map, List.map_map]
          rfl
        rw [e]
        exact h4
      · obtain ⟨y, hy, rfl⟩ := List.mem_map.mp hx
        have h5 := h3 y hy
        refine ⟨[1], [.str y], by decide, fun s H C cl fp => jc_name 1 nd, fun s H C cl fp => ?_⟩
        show JE _ [some (.str z), some (.str y)] _ _ _ _
        exact je_m PySem.F.plainAttrs_str PySem.F.slot_str_split PySem.F.type_str_split (je_var 1 rfl ⟨.inl ⟨rfl, _, rfl⟩, ja_cons (je_str (ja_nil (md_split rfl (by omega) ⟨rfl, rfl⟩)))⟩)
    | _ => 
      refine jss_cons (js_if (jt_not (jt_val (je_isi b.isinstance b.str boot_str (by decide) (je_var 0 rfl ⟨n, hn, _, rfl, ite_t rfl (jss_one (js_raise gT (hr.mono (by decide)) (ja_cons (je_int (ja_cons (je_int (ja_nil ⟨rfl, show 2 ≤ 900 by decide, no (by simp)⟩)))))))⟩)))))
end
/-! plain: the lines read one behind another -/
noncomputable def parse : List (List Str) → List (D × D) → Nat → Except (Nat × Nat) (List (D × D))
  | [], kvs, _ => .ok kvs
  | ws :: r, kvs, l => match wrong kvs ws with
    | 0 => parse r (ptD kvs (key2 (rowD ws)) (rowD ws)) (l + 1)
    | n + 1 => .error (l + 1, n + 1)
/-- the words of the lines of a text -/
noncomputable def rowsZ (z : Str) : List (List Str) := if z = "" then [] else DN.linesOf z
/-- what met holds: rows by their keys -/
def MetOk (kvs : List (D × D)) : Prop := (kvs.map (·.1)).Nodup ∧ ∀ kv ∈ kvs, isRow kv.2 = true ∧ kv.1 = key2 kv.2
theorem all_ok {kvs : List (D × D)} {ws : List Str} (h : wrong kvs ws = 0) : (∀ j, j < 10 → okAt kvs ws j = true) ∧ ws.length ≤ 10 := by
  have all : ∀ j, j < 10 → okAt kvs ws j = true := by
    intro j hj
    unfold wrong at h
    cases q : (List.range 10).find? fun i => !okAt kvs ws i with
    | some i => rw [q] at h; cases h
    | none =>
      have := List.find?_eq_none.mp q j (List.mem_range.mpr hj)
      simpa using this
  refine ⟨all, ?_⟩
  have e := wrong_end all
  rw [h] at e
  by_cases q : ws.length ≤ 10
  · exact q
  · rw [if_neg q] at e
    cases e
theorem ok_get {kvs : List (D × D)} {ws : List Str} {j : Nat} (h : okAt kvs ws j = true) : ∃ z, ws[j]? = some z ∧ ws.getD j "" = z := by
  unfold okAt at h
  cases q : ws[j]? with
  | none => rw [q] at h; cases h
  | some z => exact ⟨z, rfl, by rw [List.getD_eq_getElem?_getD, q]; rfl⟩
theorem num_n {z : Str} (h : numB z = true) : num (.int (valN z)) = true := by
  obtain ⟨_, v2, v3, _⟩ := num_val h
  show (decide ((0 : Int) ≤ valN z) && decide (valN z ≤ MOST)) = true
  rw [decide_eq_true v2, decide_eq_true v3]
  rfl
theorem row_ok {kvs : List (D × D)} {ws : List Str} (h : wrong kvs ws = 0) : isRow (rowD ws) = true ∧ key2 (rowD ws) ∉ kvs.map (·.1) := by
  obtain ⟨all, _⟩ := all_ok h
  have g : ∀ j (hj : j < 10), ∃ z, ws[j]? = some z ∧ ws.getD j "" = z := fun j hj => ok_get (all j hj)
  obtain ⟨a, a1, a2⟩ := g 1 (by decide)
  obtain ⟨b, b1, b2⟩ := g 3 (by decide)
  obtain ⟨c, c1, c2⟩ := g 5 (by decide)
  obtain ⟨d, d1, d2⟩ := g 7 (by decide)
  obtain ⟨e, e1, e2⟩ := g 9 (by decide)
  have h1 := all 1 (by decide)
  have h3 := all 3 (by decide)
  have h5 := all 5 (by decide)
  have h7 := all 7 (by decide)
  have h9 := all 9 (by decide)
  unfold okAt at h1 h3 h5 h7 h9
  rw [a1] at h1
  rw [b1] at h3
  rw [c1] at h5
  rw [d1] at h7
  rw [e1] at h9
  simp only [a2, Bool.and_eq_true, Bool.not_eq_true'] at h1 h3 h5 h7 h9
  constructor
  · unfold rowD
    rw [a2, b2, c2, d2, e2]
    show (isName (.str a) && isName (.str c) && (num (.int (valN b)) && (num (.int (valN d)) && num (.int (valN e))))) = true
    rw [h1, h5, num_n h3.1, num_n h7, num_n h9]
    rfl
  · intro hm
    have hk : key2 (rowD ws) = .tup [.str a, .int (valN b)] := by
      unfold rowD
      rw [a2, b2]
      rfl
    rw [hk] at hm
    obtain ⟨kv, hkv, ek⟩ := List.mem_map.mp hm
    have : lkD kvs (.tup [.str a, .int (valN b)]) ≠ none := by
      unfold lkD
      intro q
      rw [Option.map_eq_none_iff, List.find?_eq_none] at q
      exact q kv hkv (by simpa using ek)
    rw [Option.isSome_eq_false_iff, Option.isNone_iff_eq_none] at h3
    exact this h3.2
theorem pt_new {kvs : List (D × D)} {k d : D} (h : k ∉ kvs.map (·.1)) : ptD kvs k d = kvs ++ [(k, d)] := by
  unfold ptD
  rw [if_neg]
  intro q
  obtain ⟨kv, h1, h2⟩ := List.any_eq_true.mp q
  exact h (List.mem_map.mpr ⟨kv, h1, of_decide_eq_true h2⟩)
theorem met_put {kvs : List (D × D)} {ws : List Str} (hm : MetOk kvs) (h : wrong kvs ws = 0) : MetOk (ptD kvs (key2 (rowD ws)) (rowD ws)) ∧ (ptD kvs (key2 (rowD ws)) (rowD ws)).length = kvs.length + 1 := by
  obtain ⟨h1, h2⟩ := row_ok h
  rw [pt_new h2]
  refine ⟨⟨?_, fun kv hkv => ?_⟩, by simp⟩
  · rw [List.map_append, List.nodup_append]
    refine ⟨hm.1, by simp, fun a ha b hb e => h2 ?_⟩
    have hb' : b = key2 (rowD ws) := by simpa using hb
    rw [← hb', ← e]
    exact ha
  · rcases List.mem_append.mp hkv with q | q
    · exact hm.2 kv q
    · rw [List.mem_singleton.mp q]
      exact ⟨h1, rfl⟩
theorem met_plan {kvs : List (D × D)} (hm : MetOk kvs) : planOf (.lst (kvs.map (·.2))) = some (kvs.map (·.2)) := by
  rw [planOf_of (.inr rfl), if_pos]
  unfold planOk
  have e1 : (kvs.map (·.2)).all isRow = true := by
    rw [List.all_map, List.all_eq_true]
    exact fun kv hkv => (hm.2 kv hkv).1
  have e2 : (kvs.map (·.2)).map key2 = kvs.map (·.1) := by
    rw [List.map_map]
    exact List.map_congr_left fun kv hkv => ((hm.2 kv hkv).2).symm
  rw [e1, seen_nodup, e2, decide_eq_true hm.1]
  rfl
end K28
end

section
set_option Elab.async false
set_option linter.all false
set_option maxRecDepth 100000
set_option maxHeartbeats 4000000
set_option pp.maxSteps 700
set_option hygiene false
open PySem PyProof.Rows L2 DL
namespace K28
open PySem PySem.Spec PyProof.Rows L2 DL TL DN
noncomputable def spPlanOf (C CT : Addr) (T : Tabs3) : DL.Spec := fun ds M Φ Ψ => ∃ d n, ds = [d] ∧ M = T.mem ∧ tyN d = some n ∧ ((∀ z, d ≠ .str z) → Ψ (exText CT 0 0) T.mem) ∧
  ∀ z, d = .str z → z.length ≤ 80000 ∧ (∀ kvs, parse (rowsZ z) [] 0 = .ok kvs → MetOk kvs → Φ (.ins C (planIns C (kvs.map (·.2)))) T.mem) ∧ (∀ l n, parse (rowsZ z) [] 0 = .error (l, n) → Ψ (exText CT l n) T.mem)
theorem rows_len (z : Str) : (DN.linesOf z).length ≤ z.length + 1 := by
  unfold DN.linesOf
  rw [List.length_map]
  exact (nl_is z).1
theorem rowsZ_len (z : Str) : (rowsZ z).length ≤ z.length + 1 := by
  unfold rowsZ
  split
  · simp
  · exact rows_len z
theorem rows_wok {z : Str} {ws : List Str} (hz : z.length ≤ 80000) (h : ws ∈ DN.linesOf z) : wok ws := ⟨by have := (row_len h).2; omega, fun y hy => by have := (word_in h hy).1; omega⟩
theorem okr_row {x : D} (h : isRow x = true) : okr x := by
  obtain ⟨a, m, c, k, e, rfl, ha, hc, hm⟩ := isRow_is' h
  have ln : ∀ {y : Str}, isName (.str y) = true → y.length ≤ 1000000 := fun {y} hy => by
    have hy' : (decide (1 ≤ (y.length : Int)) && decide ((y.length : Int) ≤ 12) && Txt.isascii y && Txt.isalnum y && Txt.islower y && Txt.isalpha ⟨#[y.cps.toList.headD 0]⟩) = true := hy
    simp only [Bool.and_eq_true, decide_eq_true_eq] at hy'
    omega
  refine ⟨⟨⟨_, rfl⟩, fun z e => by cases e⟩, fun xs e y hy => ?_⟩
  cases e
  simp only [List.mem_cons, List.not_mem_nil, or_false] at hy
  rcases hy with rfl | rfl | rfl | rfl | rfl
  · exact ⟨⟨_, rfl⟩, fun z e => by cases e; exact ln ha⟩
  · exact ⟨⟨_, rfl⟩, fun z e => by cases e⟩
  · exact ⟨⟨_, rfl⟩, fun z e => by cases e; exact ln hc⟩
  · exact ⟨⟨_, rfl⟩, fun z e => by cases e⟩
  · exact ⟨⟨_, rfl⟩, fun z e => by cases e⟩
theorem met_rows {kvs : List (D × D)} (hm : MetOk kvs) (hl : kvs.length ≤ 90000) : okRows (.lst (kvs.map (·.2))) := by
  refine ⟨⟨_, rfl⟩, fun xs hx => ?_⟩
  rcases hx with e | e
  · cases e
  · cases e
    refine ⟨by rw [List.length_map]; exact hl, fun x hx => ?_⟩
    obtain ⟨kv, hkv, rfl⟩ := List.mem_map.mp hx
    exact okr_row (hm.2 kv hkv).1
section
variable {P : Program} {w : World} {K : PySem.W.Frag} {mg : Str → Option Value} {base : Heap} {f : Addr} {fd : FuncData} {C CT CR CB : Addr} {T : Tabs3}
theorem scPlanOf : FnScope ["text", "lines", "met", "line", "row", "key"] ["text"] (defScope sPlanOf) := ⟨rfl, rfl, rfl, by decide +kernel, rfl, by decide +kernel, by decide +kernel⟩
theorem ok_planOf (F : Fun K "plan_of" "plan_of" sPlanOf f fd) (b : Bn mg) (gL : GFn P w K mg base 3 "lines_of" [] (spRowsOf CT)) (gRd : GMk P w K mg base 1 "Reader" CR [] (spRInit CR)) (gRow : GFn P w K mg base 8 "read_row" [] (spReadRow CR CT T)) (gPlan : GMk P w K mg base 5 "Plan" C [] (spInit C CB)) : FnOk P w K mg base (L2.CX P w) 10 f fd ["text"] (spD K (spPlanOf C CT T)) := by
  refine fn_d F scPlanOf (fun ds M Φ Ψ h => ?_) (fun cdv A outer s H E hr ds M Φ Ψ h => ?_)
  · obtain ⟨_, _, rfl, _⟩ := h
    rfl
  · obtain ⟨d, n, rfl, rfl, hn, no, yes⟩ := h
    have nd := scPlanOf.nd
    show JSs _ [some d, none, none, none, none, none] T.mem _ _
    refine jss_cons (js_asg (je_tup (ja_cons (je_call gL (hr.mono (by decide)) (ja_cons (je_var 0 rfl (ja_nil (.none ⟨d, n, rfl, rfl, hn, no, fun z e => ?_⟩))))))))
    subst e
    obtain ⟨hz, yes, bad⟩ := yes z rfl
    have h1 := nl_is z
    refine ⟨by omega, by have := h1.1; omega, fun x hx => by have := (h1.2.1 x hx).1; omega, ja_cons (je_dTC fun m => ja_nil ⟨by simp, jg_tup (jgs_cons (jg_name 1 (jgs_cons (jg_name 2 (jgs_nil ?_) nd)) nd)) rfl⟩)⟩
    show JSs _ [some (.str z), some (rowsD (DN.linesOf z)), some (.raw (.ref m)), none, none, none] (T.mem ++ [(m, .dT [])]) _ _
    refine jss_cons (js_for (passes_of rfl) (ji_range1 b.range (JE.imp (Φ := fun d M1 => d = .int ((rowsZ z).length : Nat) ∧ M1 = T.mem ++ [(m, .dT [])]) ?_ fun d M1 hd => ?_)))
    · refine je_ifExp (jt_cmp (je_var 0 rfl (je_str (opd_neS ⟨_, rfl, ?_⟩))))
      by_cases c : z = ""
      · refine ite_f (by rw [decide_eq_true c]; rfl) (je_int ⟨?_, rfl⟩)
        unfold rowsZ
        rw [if_pos c]
        rfl
      · refine ite_t (by rw [decide_eq_false c]; rfl) (je_len b.len (je_var 1 rfl ⟨_, .inl ⟨_, rfl, rfl⟩, ?_, rfl⟩))
        unfold rowsZ
        rw [if_neg c, List.length_map]
    obtain ⟨rfl, rfl⟩ := hd
    have hlen := rowsZ_len z
    refine ⟨_, rfl, by omega, by omega, ?_⟩
    rw [Int.toNat_natCast]
    refine ⟨fun i Γ M => ∃ g3 g4 kvs, Γ = [some (.str z), some (rowsD (DN.linesOf z)), some (.raw (.ref m)), g3, g4, none] ∧ M = T.mem ++ [(m, .dT kvs)] ∧ MetOk kvs ∧ kvs.length ≤ i ∧ parse (rowsZ z) [] 0 = parse ((rowsZ z).drop i) kvs i, ⟨none, none, [], rfl, rfl, ⟨by simp, fun kv hk => by cases hk⟩, Nat.le_refl _, by rw [List.drop_zero]⟩, ?_, ?_⟩
    · rintro i x Γ M hx ⟨g3, g4, kvs, rfl, rfl, hm, hk, hp⟩
      have hi := (List.getElem?_eq_some_iff.mp hx).1
      rw [rngD_length] at hi
      obtain rfl : x = .int (i : Nat) := by
        unfold rngD at hx
        rw [List.getElem?_map, List.getElem?_range hi] at hx
        have := Option.some.inj hx
        rw [← this]
        simp
      have hz0 : z ≠ "" := fun e => by
        unfold rowsZ at hi
        rw [if_pos e] at hi
        exact absurd hi (Nat.not_lt_zero _)
      have hrz : rowsZ z = DN.linesOf z := if_neg hz0
      have hlen2 := rows_len z
      rw [hrz] at hi hp bad yes
      have hws : (DN.linesOf z)[i] = (DN.linesOf z).getD i [] := by rw [List.getD_eq_getElem?_getD, List.getElem?_eq_getElem hi]; rfl
      have hmem : (DN.linesOf z).getD i [] ∈ DN.linesOf z := by rw [← hws]; exact List.getElem_mem hi
      have hdr : (DN.linesOf z).drop i = (DN.linesOf z).getD i [] :: (DN.linesOf z).drop (i + 1) := by rw [← hws]; exact List.drop_eq_getElem_cons hi
      have hw := rows_wok hz hmem
      rw [hdr] at hp
      generalize hwsE : (DN.linesOf z).getD i [] = ws at hw hp hmem
      refine jg_name 3 ?_ nd
      show JSs _ [some (.str z), some (rowsD (DN.linesOf z)), some (.raw (.ref m)), some (.int (i : Nat)), g4, none] (T.mem ++ [(m, .dT kvs)]) _ _
      refine jss_cons (js_set (hN := nd) 4 (je_forget (je_call gRow (hr.mono (by decide)) (ja_cons (je_makeC gRd (hr.mono (by decide)) (ja_cons (je_var 1 rfl (ja_cons (je_var 3 rfl (ja_nil fun t => ⟨t, DN.linesOf z, i, rfl, rfl, hi, rfl, _, rfl, ?_⟩))))))))))
      rw [hwsE]
      refine ja_cons (je_var 2 rfl (ja_nil (.many [4, 3, 0, 1, 2] _ rfl (by decide) ⟨t, m, ws, i, kvs, rfl, rfl, hw, fun e s' _ => ?_, fun k e s' _ => ?_⟩)))
      · refine ⟨T.mem ++ [(m, .dT kvs)], [(t, .ins CR (rdF ws i s'))], rfl, rfl, ?_⟩
        obtain ⟨q1, q2⟩ := met_put hm e
        show JSs _ [some (.str z), some (rowsD (DN.linesOf z)), some (.raw (.ref m)), some (.int (i : Nat)), some (rowD ws), none] (T.mem ++ [(m, .dT kvs)]) _ _
        refine jss_one (js_dputT 3 (u1 hr) (je_var 4 rfl (je_var 2 rfl (je_slice (je_var 4 rfl (jo_none (jo_some (je_int ⟨_, rfl, True.intro, _, slD_key, m, kvs, [.inr _, .inl _], rfl, rfl, rfl, List.cons_ne_nil _ _, by omega, ?_⟩))))))))
        refine ⟨_, _, ptD kvs (key2 (rowD ws)) (rowD ws), rfl, rfl, q1, by omega, ?_⟩
        rw [hrz, hp]
        conv => lhs; unfold parse
        rw [e]
      · have he : parse (DN.linesOf z) [] 0 = .error (i + 1, k + 1) := by
          rw [hp]
          unfold parse
          rw [e]
        exact bad _ _ he
    · rintro Γ M ⟨g3, g4, kvs, rfl, rfl, hm, hk, hp⟩
      rw [rngD_length] at hk hp
      rw [List.drop_length] at hp
      have hp : parse (rowsZ z) [] 0 = .ok kvs := hp
      show JSs _ [some (.str z), some (rowsD (DN.linesOf z)), some (.raw (.ref m)), g3, g4, none] (T.mem ++ [(m, .dT kvs)]) _ _
      refine jss_one (js_ret (je_make gPlan (hr.mono (by decide)) (ja_cons (je_valsT (im := 2) (ik := 5) (k := 3) (own := [("key", 5)]) nd blk_ok rfl (u1 hr) (pe_var rfl (by first | exact .inl rfl | exact .inr (.inl rfl) | exact .inr (.inr rfl))) (fun s H C cl fp => pg_name nd rfl (by first | exact .inl rfl | exact .inr rfl)) (fun s H C cl fp => pe_var rfl (by first | exact .inl rfl | exact .inr (.inl rfl) | exact .inr (.inr rfl))) (fun s H C cl fp => pe_var rfl (by first | exact .inl rfl | exact .inr (.inl rfl) | exact .inr (.inr rfl))) rfl (by decide) (by show 5 < 6; decide) rfl hm.1 (by omega) (ja_nil fun t => ⟨t, _, rfl, rfl, met_rows hm (by omega), fun xs hx => ⟨rfl, _, rfl, ?_⟩, fun hn => ?_⟩)))))
      · rw [met_plan hm] at hx
        cases hx
        exact yes kvs hp hm
      · rw [met_plan hm] at hn
        cases hn
end
end K28
end

section
set_option Elab.async false
set_option linter.all false
set_option maxRecDepth 100000
set_option maxHeartbeats 4000000
set_option pp.maxSteps 700
set_option hygiene false
open PySem PyProof.Rows L2 DL
namespace K28
open PySem PySem.Spec PyProof.Rows L2 DL TL DN
abbrev sPlanText : Stmt := top 20
abbrev sLine : Stmt := top 32
/-- the line of a row -/
def fl (a : Str) (m : Int) (c : Str) (k e : Int) : Str := Str.empty ++ "at " ++ a ++ " memory " ++ (toString m : String) ++ " call " ++ c ++ " told " ++ (toString k : String) ++ " silent " ++ (toString e : String)
def lineD : D → Str
  | .tup [.str a, .int m, .str c, .int k, .int e] => fl a m c k e
  | _ => ""
theorem MOST_lt : MOST < (10 : Int) ^ 40 := by decide +kernel
theorem int_len {i : Int} (h0 : 0 ≤ i) (h1 : i ≤ MOST) : (Str.ofString (toString i)).length ≤ 40 ∧ i.natAbs.log2 < 1920 := by
  have hlt : i < (10 : Int) ^ 40 := by have := MOST_lt; omega
  refine ⟨PyProof.Rows.toString_length_le h0 (by decide) hlt, ?_⟩
  have h2 : i.natAbs < 2 ^ 1920 := by
    have e : (10 : Int) ^ 40 = ((10 ^ 40 : Nat) : Int) := by decide +kernel
    have e2 : (10 : Nat) ^ 40 ≤ 2 ^ 1920 := by decide +kernel
    rw [e] at hlt
    omega
  by_cases h3 : i.natAbs = 0
  · rw [h3]
    decide
  · exact (Nat.log2_lt h3).mpr h2
theorem name_len {z : Str} (h : isName (.str z) = true) : z.length ≤ 12 := by
  have h' : (decide (1 ≤ (z.length : Int)) && decide ((z.length : Int) ≤ 12) && Txt.isascii z && Txt.isalnum z && Txt.islower z && Txt.isalpha ⟨#[z.cps.toList.headD 0]⟩) = true := h
  simp only [Bool.and_eq_true, decide_eq_true_eq] at h'
  omega
theorem row_parts {x : D} (h : isRow x = true) : ∃ (a : Str) (m : Int) (c : Str) (k e : Int), x = .tup [.str a, .int m, .str c, .int k, .int e] ∧ isName (.str a) = true ∧ isName (.str c) = true ∧ (0 ≤ m ∧ m ≤ MOST) ∧ (0 ≤ k ∧ k ≤ MOST) ∧ (0 ≤ e ∧ e ≤ MOST) := by
  obtain ⟨a, m, c, k, e, rfl⟩ := isRow_is h
  have h' : (isName (.str a) && isName (.str c) && (num (.int m) && (num (.int k) && num (.int e)))) = true := h
  simp only [Bool.and_eq_true] at h'
  have g : ∀ {i : Int}, num (.int i) = true → 0 ≤ i ∧ i ≤ MOST := fun {i} hi => by
    obtain ⟨j, e1, e2, e3⟩ := num_int hi
    cases e1
    exact ⟨e2, e3⟩
  exact ⟨a, m, c, k, e, rfl, h'.1.1, h'.1.2, g h'.2.1, g h'.2.2.1, g h'.2.2.2⟩
theorem lit_len : (" memory " : Str).length = 8 ∧ (" call " : Str).length = 6 ∧ (" told " : Str).length = 6 ∧ (" silent " : Str).length = 8 ∧ ("at " : Str).length = 3 ∧ (Str.empty).length = 0 := ⟨rfl, rfl, rfl, rfl, rfl, rfl⟩
theorem fl_len {a c : Str} {m k e : Int} (ha : isName (.str a) = true) (hc : isName (.str c) = true) (hm : 0 ≤ m ∧ m ≤ MOST) (hk : 0 ≤ k ∧ k ≤ MOST) (he : 0 ≤ e ∧ e ≤ MOST) : (fl a m c k e).length ≤ 200 := by
  have h1 := name_len ha
  have h2 := name_len hc
  have h3 := (int_len hm.1 hm.2).1
  have h4 := (int_len hk.1 hk.2).1
  have h5 := (int_len he.1 he.2).1
  obtain ⟨l1, l2, l3, l4, l5, l6⟩ := lit_len
  unfold fl
  simp only [DN.app_len]
  omega
def spPlanText (C : Addr) : DL.Spec := fun ds M Φ _ => ∃ xs, ds = [.ins C (planIns C xs)] ∧ M = [] ∧ xs.length ≤ 100 ∧ (∀ x ∈ xs, isRow x = true) ∧ Φ (.str (Txt.join "\n" ((sortD xs).map lineD))) []
section
variable {P : Program} {w : World} {K : PySem.W.Frag} {mg : Str → Option Value} {base : Heap} {f : Addr} {fd : FuncData} {C : Addr}
theorem scPlanText : FnScope ["plan", "lines", "place", "memory", "call", "told", "silent"] ["plan"] (defScope sPlanText) := ⟨rfl, rfl, rfl, by decide +kernel, rfl, by decide +kernel, by decide +kernel⟩
theorem sum_le200 : ∀ {xs : List D}, (∀ x ∈ xs, (lineD x).length ≤ 200) → ((xs.map lineD).map (·.length)).sum ≤ 200 * xs.length
  | [], _ => Nat.zero_le _
  | x :: xs, h => by
    have h1 := h x List.mem_cons_self
    have h2 := sum_le200 fun y hy => h y (List.mem_cons_of_mem _ hy)
    simp only [List.map_cons, List.sum_cons, List.length_cons]
    omega
theorem row_line {x : D} (h : isRow x = true) : (lineD x).length ≤ 200 := by
  obtain ⟨a, m, c, k, e, rfl, h1, h2, h3, h4, h5⟩ := row_parts h
  exact fl_len h1 h2 h3 h4 h5
theorem ok_planText (F : Fun K "plan_text" "plan_text" sPlanText f fd) (cl : Cls K C) (nR : NoAttr K C "rows") : FnOk P w K mg base (L2.CX P w) 1 f fd ["plan"] (spD K (spPlanText C)) := by
  refine fn_d F scPlanText (fun ds M Φ Ψ h => ?_) (fun cdv A outer s H E hr ds M Φ Ψ h => ?_)
  · obtain ⟨xs, rfl, _⟩ := h
    rfl
  · obtain ⟨xs, rfl, rfl, hl, hx, h⟩ := h
    have nd := scPlanText.nd
    have hs : (sortD xs).length ≤ 100 := by rw [sort_length]; exact hl
    have hrow : ∀ x ∈ sortD xs, isRow x = true := fun x hx' => hx x (sort_mem.mp hx')
    have hrows := planIns_rows C xs
    show JSs _ [some (.ins C (planIns C xs)), none, none, none, none, none, none] [] _ _
    generalize planIns C xs = fs at hrows
    generalize sortD xs = ys at hs hrow hrows h
    refine jss_cons (js_set (hN := nd) 1 (je_lstC (ja_nil ⟨by simp, fun t => ?_⟩)))
    show JSs _ [some (.ins C fs), some (.raw (.ref t)), none, none, none, none, none] [(t, .lst [])] _ _
    refine jss_cons (js_for (passes_of rfl) (ji_tup (je_fld (je_var 0 rfl ⟨C, fs, _, rfl, cl, nR, hrows, _, rfl, ?_⟩))))
    refine ⟨fun i Γ M => ∃ g2 g3 g4 g5 g6, Γ = [some (.ins C fs), some (.raw (.ref t)), g2, g3, g4, g5, g6] ∧ M = [(t, .lst (((ys.take i).map lineD).map D.str))], ⟨none, none, none, none, none, rfl, rfl⟩, ?_, ?_⟩
    · rintro i x Γ M hi ⟨g2, g3, g4, g5, g6, rfl, rfl⟩
      obtain ⟨a, m, c, k, e, rfl, h1, h2, h3, h4, h5⟩ := row_parts (hrow x (List.mem_of_getElem? hi))
      have tk : ((ys.take (i + 1)).map lineD).map D.str = ((ys.take i).map lineD).map D.str ++ [.str (fl a m c k e)] := by
        rw [List.take_add_one, hi, List.map_append, List.map_append]
        rfl
      refine jg_tup (jgs_cons (jg_name 2 (jgs_cons (jg_name 3 (jgs_cons (jg_name 4 (jgs_cons (jg_name 5 (jgs_cons (jg_name 6 (jgs_nil ?_) nd)) nd)) nd)) nd)) nd)) rfl
      show JSs _ [some (.ins C fs), some (.raw (.ref t)), some (.str a), some (.int m), some (.str c), some (.int k), some (.int e)] [(t, .lst (((ys.take i).map lineD).map D.str))] _ _
      have n1 := name_len h1
      have n2 := name_len h2
      obtain ⟨n3, b3⟩ := int_len h3.1 h3.2
      obtain ⟨n4, b4⟩ := int_len h4.1 h4.2
      obtain ⟨n5, b5⟩ := int_len h5.1 h5.2
      obtain ⟨l1, l2, l3, l4, l5, l6⟩ := lit_len
      refine jss_one (js_expr (je_m PySem.F.plainAttrs_list PySem.F.slot_list_append PySem.F.type_list_append (je_var 1 rfl ⟨.inr ⟨rfl, .inr ⟨0, t, _, rfl, rfl⟩⟩, ja_cons (je_joined ?_)⟩)))
      refine je_str ⟨_, rfl, ?_, je_fmt (je_var 2 rfl (.inl ⟨a, rfl, by omega, _, rfl, ?_, ?_⟩))⟩
      · omega
      · simp only [DN.app_len]; omega
      refine je_str ⟨_, rfl, ?_, je_fmt (je_var 3 rfl (.inr ⟨m, rfl, b3, _, rfl, ?_, ?_⟩))⟩
      · simp only [DN.app_len]; omega
      · simp only [DN.app_len]; omega
      refine je_str ⟨_, rfl, ?_, je_fmt (je_var 4 rfl (.inl ⟨c, rfl, by omega, _, rfl, ?_, ?_⟩))⟩
      · simp only [DN.app_len]; omega
      · simp only [DN.app_len]; omega
      refine je_str ⟨_, rfl, ?_, je_fmt (je_var 5 rfl (.inr ⟨k, rfl, b4, _, rfl, ?_, ?_⟩))⟩
      · simp only [DN.app_len]; omega
      · simp only [DN.app_len]; omega
      refine je_str ⟨_, rfl, ?_, je_fmt (je_var 6 rfl (.inr ⟨e, rfl, b5, _, rfl, ?_, ?_⟩))⟩
      · simp only [DN.app_len]; omega
      · simp only [DN.app_len]; omega
      refine ja_nil (md_append 0 rfl (by rw [List.length_map, List.length_map, List.length_take]; omega) ?_)
      exact ⟨_, _, _, _, _, rfl, by rw [tk]; rfl⟩
    · rintro Γ M ⟨g2, g3, g4, g5, g6, rfl, rfl⟩
      rw [List.take_length]
      have hsum := sum_le200 (xs := ys) fun x hx => row_line (hrow x hx)
      have e1 : ("\n" : Str).length = 1 := rfl
      exact jss_one (js_ret (je_m PySem.F.plainAttrs_str PySem.F.slot_str_join PySem.F.type_str_join (je_str ⟨.inl ⟨rfl, _, rfl⟩, ja_cons (je_var 1 rfl (ja_nil (md_joinC 0 rfl (by rw [e1, List.length_map]; omega) h)))⟩)))
end
end K28
end

section
set_option Elab.async false
set_option linter.all false
set_option maxRecDepth 100000
set_option maxHeartbeats 4000000
set_option pp.maxSteps 700
set_option hygiene false
open PySem PyProof.Rows L2 DL
namespace K28
open PySem PySem.Spec PyProof.Rows L2 DL TL DN
abbrev sNumeral2 : Stmt := top 33
abbrev sWrong : Stmt := top 34
def ll (a : Str) (m : Int) (c : Str) (k e : Int) : Str := Txt.join " " ["at", a, "memory", (toString m : String), "call", c, "told", (toString k : String), "silent", (toString e : String)]
theorem str_ext {a b : Str} (h : tl a = tl b) : a = b := by
  cases a with
  | mk x =>
    cases b with
    | mk y =>
      have : x.toList = y.toList := h
      congr 1
      exact Array.toList_inj.mp this
theorem ll_fl (a : Str) (m : Int) (c : Str) (k e : Int) : ll a m c k e = fl a m c k e := by
  refine str_ext ?_
  unfold ll fl
  rw [join_eq, tl_join]
  have e0 : tl Str.empty = [] := rfl
  have e1 : tl ("at " : Str) = tl ("at" : Str) ++ tl (" " : Str) := by decide +kernel
  have e2 : tl (" memory " : Str) = tl (" " : Str) ++ (tl ("memory" : Str) ++ tl (" " : Str)) := by decide +kernel
  have e3 : tl (" call " : Str) = tl (" " : Str) ++ (tl ("call" : Str) ++ tl (" " : Str)) := by decide +kernel
  have e4 : tl (" told " : Str) = tl (" " : Str) ++ (tl ("told" : Str) ++ tl (" " : Str)) := by decide +kernel
  have e5 : tl (" silent " : Str) = tl (" " : Str) ++ (tl ("silent" : Str) ++ tl (" " : Str)) := by decide +kernel
  simp only [List.map_cons, List.map_nil, joinL, tl_append, e0, e1, e2, e3, e4, e5, List.append_assoc, List.nil_append]
def spLine : DL.Spec := fun ds M Φ _ => ∃ x, ds = [x] ∧ M = [] ∧ isRow x = true ∧ Φ (.str (lineD x)) []
section
variable {P : Program} {w : World} {K : PySem.W.Frag} {mg : Str → Option Value} {base : Heap} {f : Addr} {fd : FuncData} {C : Addr}
theorem scLine : FnScope ["row"] ["row"] (defScope sLine) := ⟨rfl, rfl, rfl, by decide +kernel, rfl, by decide +kernel, by decide +kernel⟩
theorem ok_line (F : Fun K "_law_line" "_law_line" sLine f fd) (b : Bn mg) : FnOk P w K mg base (L2.CX P w) 1 f fd ["row"] (spD K spLine) := by
  refine fn_d F scLine (fun ds M Φ Ψ h => ?_) (fun cdv A outer s H E hr ds M Φ Ψ h => ?_)
  · obtain ⟨x, rfl, _⟩ := h
    rfl
  · obtain ⟨x, rfl, rfl, hx, h⟩ := h
    obtain ⟨a, m, c, k, e, rfl, h1, h2, h3, h4, h5⟩ := row_parts hx
    have h : Φ (.str (fl a m c k e)) [] := h
    rw [← ll_fl] at h
    have n1 := name_len h1
    have n2 := name_len h2
    obtain ⟨n3, b3⟩ := int_len h3.1 h3.2
    obtain ⟨n4, b4⟩ := int_len h4.1 h4.2
    obtain ⟨n5, b5⟩ := int_len h5.1 h5.2
    show JSs _ [some (.tup [.str a, .int m, .str c, .int k, .int e])] [] _ _
    refine jss_one (js_ret (je_m PySem.F.plainAttrs_str PySem.F.slot_str_join PySem.F.type_str_join (je_str ⟨.inl ⟨rfl, _, rfl⟩, ja_cons (je_lst ?_)⟩)))
    refine ja_cons (je_str (ja_cons (je_ixT (je_var 0 rfl (je_int ⟨_, _, .str a, rfl, rfl, rfl, ?_⟩)))))
    refine ja_cons (je_str (ja_cons (je_callT b.str boot_str (ja_cons (je_ixT (je_var 0 rfl (je_int ⟨_, _, .int m, rfl, rfl, rfl, ja_nil (cd_strI b3 ?_)⟩)))))))
    refine ja_cons (je_str (ja_cons (je_ixT (je_var 0 rfl (je_int ⟨_, _, .str c, rfl, rfl, rfl, ?_⟩)))))
    refine ja_cons (je_str (ja_cons (je_callT b.str boot_str (ja_cons (je_ixT (je_var 0 rfl (je_int ⟨_, _, .int k, rfl, rfl, rfl, ja_nil (cd_strI b4 ?_)⟩)))))))
    refine ja_cons (je_str (ja_cons (je_callT b.str boot_str (ja_cons (je_ixT (je_var 0 rfl (je_int ⟨_, _, .int e, rfl, rfl, rfl, ja_nil (cd_strI b5 (ja_nil ⟨by simp, ?_⟩))⟩)))))))
    refine ja_nil (md_joinL (ys := ["at", a, "memory", (toString m : String), "call", c, "told", (toString k : String), "silent", (toString e : String)]) ?_ h)
    have e1 : (" " : Str).length = 1 := rfl
    have e2 : ("at" : Str).length = 2 ∧ ("memory" : Str).length = 6 ∧ ("call" : Str).length = 4 ∧ ("told" : Str).length = 4 ∧ ("silent" : Str).length = 6 := ⟨rfl, rfl, rfl, rfl, rfl⟩
    simp only [List.map_cons, List.map_nil, List.sum_cons, List.sum_nil, List.length_cons, List.length_nil]
    omega
theorem scNumeral2 : FnScope ["word", "sign"] ["word"] (defScope sNumeral2) := ⟨rfl, rfl, rfl, by decide +kernel, rfl, by decide +kernel, by decide +kernel⟩
theorem ok_numeral2 (F : Fun K "_law_is_numeral" "_law_is_numeral" sNumeral2 f fd) (b : Bn mg) : FnOk P w K mg base (L2.CX P w) 1 f fd ["word"] (spD K spNumeral) := by
  refine fn_d F scNumeral2 (fun ds M Φ Ψ h => ?_) (fun cdv A outer s H E hr ds M Φ Ψ h => ?_)
  · obtain ⟨z, rfl, _⟩ := h
    rfl
  · obtain ⟨z, rfl, rfl, hl, h⟩ := h
    have nd := scNumeral2.nd
    unfold numB at h
    show JSs _ [some (.str z), none] [] _ _
    refine jss_one (js_ret (je_and (je_chain (je_int (je_len b.len (je_var 0 rfl ⟨_, .inr (.inr (.inl ⟨z, rfl, hl, rfl⟩)), opd_leI ⟨_, rfl, ?_⟩⟩))))))
    refine ite_2 (fun c1 => je_int (opd_leI ⟨_, rfl, ?_⟩)) fun c1 => ?_
    · rw [c1] at h
      refine ite_2 (fun c2 => ?_) fun c2 => ?_
      · rw [c2] at h
        refine je_and (je_callB b.all boot_all (ja_cons (je_lc (own := [("sign", 1)]) nd blk_ok (ji_str (je_var 0 rfl ⟨z, rfl, ?_⟩)))))
        refine figs_ask hl ?_ fun c => ?_
        · refine ja_nil (cd_all rfl ?_)
          rw [List.all_map]
          refine ⟨_, rfl, ite_2 (fun c3 => ?_) fun c3 => ?_⟩
          · have c3' : figAll z = true := c3
            rw [c3'] at h
            have h : Φ (.bl (decide (z = "0") || !decide ((⟨#[z.cps.toList.headD 0]⟩ : Str) = "0"))) [] := h
            refine je_one (je_or (je_cmp (je_var 0 rfl (je_str (opd_eqS ⟨_, rfl, ?_⟩)))))
            refine ite_2 (fun c4 => ?_) fun c4 => ?_
            · rw [c4] at h
              exact h
            · rw [c4] at h
              exact je_one (je_cmp (je_ixS (je_var 0 rfl (je_int ⟨z, 0, _, rfl, rfl, hl, DN.at_head z (of_decide_eq_true c1), je_str (opd_neS h)⟩))))
          · have c3' : figAll z = false := c3
            rw [c3'] at h
            exact h
        · refine ⟨[1], [_], by decide, fun s H C cl fp => jc_name 1 nd, fun s H C cl fp => ?_⟩
          show JE _ [some (.str z), some (.str ⟨#[c]⟩)] _ _ _ _
          exact je_cmp (je_var 1 rfl (je_str (opd_inS ⟨rfl, rfl⟩)))
      · rw [c2] at h
        exact h
    · rw [c1] at h
      exact ⟨_, rfl, ite_f rfl h⟩
end
end K28
end

section
set_option Elab.async false
set_option linter.all false
set_option maxRecDepth 100000
set_option maxHeartbeats 4000000
set_option pp.maxSteps 700
set_option hygiene false
open PySem PyProof.Rows L2 DL
set_option pp.maxSteps 30
namespace K28
open PySem PySem.Spec PyProof.Rows L2 DL TL DN
def signs : List D := [.str "at", .non, .str "memory", .int 0, .str "call", .non, .str "told", .int 0, .str "silent", .int 0]
theorem key_fit1 {a : Str} {v : Int} (h : isName (.str a) = true) : plain (.tup [.str a, .int v]) = true ∧ (py (.tup [.str a, .int v])).canLay0 = true ∧ (py (.tup [.str a, .int v])).depth ≤ 60 := by
  refine ⟨rfl, ?_, (by decide : 1 ≤ 60)⟩
  show (PyData.strOk a && (true && true)) = true
  rw [name_ok h]
  rfl
theorem fit1 {d : D} (h : plain d = true ∧ (py d).canLay0 = true ∧ (py d).depth ≤ 60) : fit d = true := by
  show (plain d && (PyData.canLay0 (py d) && decide ((py d).depth ≤ 64))) = true
  rw [h.1, h.2.1, decide_eq_true (by omega : (py d).depth ≤ 64)]
  rfl
theorem met_keys {kvs : List (D × D)} (hm : MetOk kvs) : ∀ k ∈ kvs.map (·.1), ∃ (a : Str) (v : Int), k = .tup [.str a, .int v] ∧ isName (.str a) = true := fun k hk => by
  obtain ⟨kv, h1, rfl⟩ := List.mem_map.mp hk
  obtain ⟨h2, h3⟩ := hm.2 kv h1
  obtain ⟨a, m, c, x, e, h4, h5, _⟩ := row_parts h2
  exact ⟨a, m, by rw [h3, h4]; rfl, h5⟩
theorem met_fit {kvs : List (D × D)} (hm : MetOk kvs) : fit (.lst (kvs.map (·.1))) = true := fit_lst fun k hk => by
  obtain ⟨a, v, rfl, h⟩ := met_keys hm k hk
  exact key_fit1 h
theorem met_any {kvs : List (D × D)} (hm : MetOk kvs) (a : Str) (v : Int) : ((kvs.map (·.1)).any fun z => eqd z (.tup [.str a, .int v])) = (lkD kvs (.tup [.str a, .int v])).isSome := by
  have e : ∀ kv ∈ kvs, eqd kv.1 (.tup [.str a, .int v]) = decide (kv.1 = .tup [.str a, .int v]) := fun kv hk => by
    obtain ⟨b, n, h1, _⟩ := met_keys hm kv.1 (List.mem_map_of_mem hk)
    exact eqd_key ⟨b, n, h1⟩ ⟨a, v, rfl⟩
  unfold lkD
  rw [List.any_map, Option.isSome_map, Bool.eq_iff_iff, List.any_eq_true, List.find?_isSome]
  constructor
  · rintro ⟨kv, h1, h2⟩
    exact ⟨kv, h1, by rw [← e kv h1]; exact h2⟩
  · rintro ⟨kv, h1, h2⟩
    exact ⟨kv, h1, by show eqd kv.1 _ = true; rw [e kv h1]; exact h2⟩
noncomputable def spWrong : DL.Spec := fun ds M Φ _ => ∃ m ws kvs, ds = [.lst (ws.map .str), .raw (.ref m)] ∧ M = [(m, .lst (kvs.map (·.1)))] ∧ wok ws ∧ MetOk kvs ∧ Φ (.int (wrong kvs ws : Nat)) M
section
variable {P : Program} {w : World} {K : PySem.W.Frag} {mg : Str → Option Value} {base : Heap} {f : Addr} {fd : FuncData}
theorem scWrong : FnScope ["words", "met", "signs", "at", "word"] ["words", "met"] (defScope sWrong) := ⟨rfl, rfl, rfl, by decide +kernel, rfl, by decide +kernel, by decide +kernel⟩
theorem ok_wrong (F : Fun K "_law_wrong_word" "_law_wrong_word" sWrong f fd) (b : Bn mg) (be : mg "enumerate" = none) (gN : GFn P w K mg base 1 "_law_is_name" [] spName) (gM : GFn P w K mg base 1 "_law_is_numeral" [] spNumeral) : FnOk P w K mg base (L2.CX P w) 2 f fd ["words", "met"] (spD K spWrong) := by
  refine fn_d F scWrong (fun ds M Φ Ψ h => ?_) (fun cdv A outer s H E hr ds M Φ Ψ h => ?_)
  · obtain ⟨_, _, _, rfl, _⟩ := h
    rfl
  · obtain ⟨m, ws, kvs, rfl, rfl, hw, hm, h⟩ := h
    have nd := scWrong.nd
    have hu := hr.units
    have hun := hr.un
    have big := hw.1
    show JSs _ [some (.lst (ws.map .str)), some (.raw (.ref m)), none, none, none] [(m, .lst (kvs.map (·.1)))] _ _
    refine jss_cons (js_set (hN := nd) 2 (je_lst ?_))
    refine ja_cons (je_str (ja_cons (je_non (ja_cons (je_str (ja_cons (je_int (ja_cons (je_str (ja_cons (je_non (ja_cons (je_str (ja_cons (je_int (ja_cons (je_str (ja_cons (je_int (ja_nil ⟨by simp, ?_⟩))))))))))))))))))))
    show JSs _ [some (.lst (ws.map .str)), some (.raw (.ref m)), some (.lst signs), none, none] [(m, .lst (kvs.map (·.1)))] _ _
    refine jss_cons (js_for (passes_of rfl) (ji_enum be (je_var 0 rfl ⟨_, rfl, ?_⟩)))
    refine ⟨fun i Γ M => ∃ g3 g4, Γ = [some (.lst (ws.map .str)), some (.raw (.ref m)), some (.lst signs), g3, g4] ∧ M = [(m, .lst (kvs.map (·.1)))] ∧ i ≤ 10 ∧ ∀ j, j < i → okAt kvs ws j = true, ⟨none, none, rfl, rfl, by decide, fun j hj => by omega⟩, ?_, ?_⟩
    · rintro i x Γ M hx ⟨g3, g4, rfl, rfl, hi, hall⟩
      obtain ⟨y, hy, rfl⟩ := enumD_get hx
      rw [List.getElem?_map] at hy
      cases q : ws[i]? with
      | none => rw [q] at hy; cases hy
      | some z =>
      rw [q] at hy
      cases hy
      have hlt : i < ws.length := (List.getElem?_eq_some_iff.mp q).1
      have hz : z.length ≤ 1000000 := hw.2 z (List.mem_of_getElem? q)
      have okz : okv (.str z) := ⟨⟨_, rfl⟩, fun y e => by cases e; exact hz⟩
      refine jg_tup (jgs_cons (jg_name 3 (jgs_cons (jg_name 4 (jgs_nil ?_) nd)) nd)) rfl
      show JSs _ [some (.lst (ws.map .str)), some (.raw (.ref m)), some (.lst signs), some (.int (i : Nat)), some (.str z)] [(m, .lst (kvs.map (·.1)))] _ _
      have first : ∀ {P' : Post}, True := fun {_} => True.intro
      by_cases h10 : i = 10
      · subst h10
        refine jss_cons (js_if (jt_w (jw_or (jt_cmp (je_var 3 rfl (je_len b.len (je_var 2 rfl ⟨_, .inl ⟨_, rfl, rfl⟩, opd_geI ⟨_, rfl, ite_t (by decide) (ite_t rfl (jss_one (js_ret (je_op (je_var 3 rfl (je_int (opd_addI ?_)))))))⟩⟩)))))))
        have e : wrong kvs ws = 11 := by rw [wrong_end hall, if_neg (by omega)]
        rw [e] at h
        exact h
      have h9 : i = 0 ∨ i = 1 ∨ i = 2 ∨ i = 3 ∨ i = 4 ∨ i = 5 ∨ i = 6 ∨ i = 7 ∨ i = 8 ∨ i = 9 := by omega
      clear h10 first hi
      rcases h9 with rfl | rfl | rfl | rfl | rfl | rfl | rfl | rfl | rfl | rfl
      · refine jss_cons (js_if (jt_w (jw_or (jt_cmp (je_var 3 rfl (je_len b.len (je_var 2 rfl ⟨_, .inl ⟨_, rfl, rfl⟩, opd_geI ⟨_, rfl, ite_f (by decide) ?_⟩⟩)))))))
        refine jw_or1 (jt_w (jw_and (jt_val (je_isi b.isinstance b.str boot_str (by decide) (je_ixL (je_var 2 rfl (je_var 3 rfl ⟨_, _, .str "at", rfl, rfl, rfl, _, rfl, _, rfl, ite_t rfl ?_⟩)))))))
        refine jw_and1 (jt_cmp (je_var 4 rfl (je_ixL (je_var 2 rfl (je_var 3 rfl ⟨_, _, .str "at", rfl, rfl, rfl, opd_neS ⟨_, rfl, ?_⟩⟩)))))
        by_cases c : z = "at"
        rotate_left
        · refine ite_t (by rw [decide_eq_false c]; rfl) ?_
          refine jss_one (js_ret (je_op (je_var 3 rfl (je_int (opd_addI ?_)))))
          have e : wrong kvs ws = 1 := wrong_at (by decide) (by unfold okAt; rw [q]; exact decide_eq_false c) hall
          rw [e] at h
          exact h
        refine ite_f (by rw [decide_eq_true c]; rfl) (jss_nil ?_)
        refine jss_cons (js_if (jt_w (jw_or (jt_w (jw_and (jt_cmp (je_ixL (je_var 2 rfl (je_var 3 rfl ⟨_, _, .str "at", rfl, rfl, rfl, je_non (opd_isN (by simp) ⟨_, rfl, ite_f rfl (ite_f rfl ?_)⟩)⟩)))))))))
        refine jw_or1 (jt_w (jw_and (jt_cmp (je_ixL (je_var 2 rfl (je_var 3 rfl ⟨_, _, .str "at", rfl, rfl, rfl, je_int (opd_eqD hu (by decide +kernel) (by decide +kernel) ⟨_, rfl, ite_f (by decide +kernel) (ite_f rfl (jss_nil ?_))⟩)⟩))))))
        refine jss_one (js_if (jt_w (jw_and (jt_cmp (je_var 3 rfl (je_int (opd_eqI ⟨_, rfl, ite_f (by decide) (ite_f rfl (jss_nil ?_))⟩)))))))
        exact ⟨_, _, rfl, rfl, by decide, to_succ hall (show okAt kvs ws 0 = true by unfold okAt; rw [q]; exact decide_eq_true c)⟩
      · refine jss_cons (js_if (jt_w (jw_or (jt_cmp (je_var 3 rfl (je_len b.len (je_var 2 rfl ⟨_, .inl ⟨_, rfl, rfl⟩, opd_geI ⟨_, rfl, ite_f (by decide) ?_⟩⟩)))))))
        refine jw_or1 (jt_w (jw_and (jt_val (je_isi b.isinstance b.str boot_str (by decide) (je_ixL (je_var 2 rfl (je_var 3 rfl ⟨_, _, .non, rfl, rfl, rfl, _, rfl, _, rfl, ite_f rfl (ite_f rfl (jss_nil ?_))⟩)))))))
        refine jss_cons (js_if (jt_w (jw_or (jt_w (jw_and (jt_cmp (je_ixL (je_var 2 rfl (je_var 3 rfl ⟨_, _, .non, rfl, rfl, rfl, je_non (opd_isN (by simp) ⟨_, rfl, ite_t rfl ?_⟩)⟩)))))))))
        refine jw_and1 (jt_not (jt_val (je_call gN (hr.mono (by decide)) (ja_cons (je_var 4 rfl (ja_nil (use_name okz ⟨_, rfl, ?_⟩)))))))
        cases c : isName (.str z) with
        | false =>
          refine ite_t rfl (ite_t rfl ?_)
          refine jss_one (js_ret (je_op (je_var 3 rfl (je_int (opd_addI ?_)))))
          have e : wrong kvs ws = 2 := wrong_at (by decide) (by unfold okAt; rw [q]; exact c) hall
          rw [e] at h
          exact h
        | true =>
        refine ite_f rfl ?_
        refine jw_or1 (jt_w (jw_and (jt_cmp (je_ixL (je_var 2 rfl (je_var 3 rfl ⟨_, _, .non, rfl, rfl, rfl, je_int (opd_eqD hu (by decide +kernel) (by decide +kernel) ⟨_, rfl, ite_f (by decide +kernel) (ite_f rfl (jss_nil ?_))⟩)⟩))))))
        refine jss_one (js_if (jt_w (jw_and (jt_cmp (je_var 3 rfl (je_int (opd_eqI ⟨_, rfl, ite_f (by decide) (ite_f rfl (jss_nil ?_))⟩)))))))
        exact ⟨_, _, rfl, rfl, by decide, to_succ hall (show okAt kvs ws 1 = true by unfold okAt; rw [q]; exact c)⟩
      · refine jss_cons (js_if (jt_w (jw_or (jt_cmp (je_var 3 rfl (je_len b.len (je_var 2 rfl ⟨_, .inl ⟨_, rfl, rfl⟩, opd_geI ⟨_, rfl, ite_f (by decide) ?_⟩⟩)))))))
        refine jw_or1 (jt_w (jw_and (jt_val (je_isi b.isinstance b.str boot_str (by decide) (je_ixL (je_var 2 rfl (je_var 3 rfl ⟨_, _, .str "memory", rfl, rfl, rfl, _, rfl, _, rfl, ite_t rfl ?_⟩)))))))
        refine jw_and1 (jt_cmp (je_var 4 rfl (je_ixL (je_var 2 rfl (je_var 3 rfl ⟨_, _, .str "memory", rfl, rfl, rfl, opd_neS ⟨_, rfl, ?_⟩⟩)))))
        by_cases c : z = "memory"
        rotate_left
        · refine ite_t (by rw [decide_eq_false c]; rfl) ?_
          refine jss_one (js_ret (je_op (je_var 3 rfl (je_int (opd_addI ?_)))))
          have e : wrong kvs ws = 3 := wrong_at (by decide) (by unfold okAt; rw [q]; exact decide_eq_false c) hall
          rw [e] at h
          exact h
        refine ite_f (by rw [decide_eq_true c]; rfl) (jss_nil ?_)
        refine jss_cons (js_if (jt_w (jw_or (jt_w (jw_and (jt_cmp (je_ixL (je_var 2 rfl (je_var 3 rfl ⟨_, _, .str "memory", rfl, rfl, rfl, je_non (opd_isN (by simp) ⟨_, rfl, ite_f rfl (ite_f rfl ?_)⟩)⟩)))))))))
        refine jw_or1 (jt_w (jw_and (jt_cmp (je_ixL (je_var 2 rfl (je_var 3 rfl ⟨_, _, .str "memory", rfl, rfl, rfl, je_int (opd_eqD hu (by decide +kernel) (by decide +kernel) ⟨_, rfl, ite_f (by decide +kernel) (ite_f rfl (jss_nil ?_))⟩)⟩))))))
        refine jss_one (js_if (jt_w (jw_and (jt_cmp (je_var 3 rfl (je_int (opd_eqI ⟨_, rfl, ite_f (by decide) (ite_f rfl (jss_nil ?_))⟩)))))))
        exact ⟨_, _, rfl, rfl, by decide, to_succ hall (show okAt kvs ws 2 = true by unfold okAt; rw [q]; exact decide_eq_true c)⟩
      · refine jss_cons (js_if (jt_w (jw_or (jt_cmp (je_var 3 rfl (je_len b.len (je_var 2 rfl ⟨_, .inl ⟨_, rfl, rfl⟩, opd_geI ⟨_, rfl, ite_f (by decide) ?_⟩⟩)))))))
        refine jw_or1 (jt_w (jw_and (jt_val (je_isi b.isinstance b.str boot_str (by decide) (je_ixL (je_var 2 rfl (je_var 3 rfl ⟨_, _, .int 0, rfl, rfl, rfl, _, rfl, _, rfl, ite_f rfl (ite_f rfl (jss_nil ?_))⟩)))))))
        refine jss_cons (js_if (jt_w (jw_or (jt_w (jw_and (jt_cmp (je_ixL (je_var 2 rfl (je_var 3 rfl ⟨_, _, .int 0, rfl, rfl, rfl, je_non (opd_isN (by simp) ⟨_, rfl, ite_f rfl (ite_f rfl ?_)⟩)⟩)))))))))
        refine jw_or1 (jt_w (jw_and (jt_cmp (je_ixL (je_var 2 rfl (je_var 3 rfl ⟨_, _, .int 0, rfl, rfl, rfl, je_int (opd_eqD hu (by decide +kernel) (by decide +kernel) ⟨_, rfl, ite_t (by decide +kernel) ?_⟩)⟩))))))
        refine jw_and1 (jt_not (jt_val (je_call gM (hr.mono (by decide)) (ja_cons (je_var 4 rfl (ja_nil (use_num hz ⟨_, rfl, ?_⟩)))))))
        cases c : numB z with
        | false =>
          refine ite_t rfl ?_
          refine jss_one (js_ret (je_op (je_var 3 rfl (je_int (opd_addI ?_)))))
          have e : wrong kvs ws = 4 := wrong_at (by decide) (by unfold okAt; rw [q]; exact (by rw [c]; rfl : (numB z && _) = false)) hall
          rw [e] at h
          exact h
        | true =>
        refine ite_f rfl (jss_nil ?_)
        obtain ⟨a, a1, a2⟩ := ok_get (hall 1 (by decide))
        have ha : isName (.str a) = true := by
          have := hall 1 (by decide)
          unfold okAt at this
          rw [a1] at this
          exact this
        obtain ⟨v1, v2, v3, v4⟩ := num_val c
        have e3 : okAt kvs ws 3 = !(lkD kvs (.tup [.str a, .int (valN z)])).isSome := by
          unfold okAt
          rw [q]
          show (numB z && !(lkD kvs (.tup [.str (ws.getD 1 ""), .int (valN z)])).isSome) = _
          rw [c, a2, Bool.true_and]
        have g1 : atI (ws.map D.str) 1 = some (.str a) := by
          have := DN.atI_nat (ws.map D.str) 1
          rw [List.getElem?_map, a1] at this
          exact this
        refine jss_one (js_if (jt_w (jw_and (jt_cmp (je_var 3 rfl (je_int (opd_eqI ⟨_, rfl, ite_t (by decide) ?_⟩)))))))
        refine jw_and1 (jt_cmp (je_tup (ja_cons (je_ixL (je_var 0 rfl (je_int ⟨_, _, _, rfl, rfl, g1, ja_cons (je_callT b.int boot_int (ja_cons (je_var 4 rfl (ja_nil (cd_intS v1 v4 (ja_nil ⟨by simp, je_var 1 rfl (opd_inC 0 rfl (show (A.deeper (envOfC "_law_wrong_word" (defScope sWrong) s.heap.objs.size f cdv)).units + 65 < cLine by omega) (fit1 (key_fit1 ha)) (met_fit hm) ⟨_, rfl, ?_⟩)⟩)))))) ⟩))))))
        rw [met_any hm]
        cases c2 : (lkD kvs (.tup [.str a, .int (valN z)])).isSome with
        | true =>
          refine ite_t rfl ?_
          refine jss_one (js_ret (je_op (je_var 3 rfl (je_int (opd_addI ?_)))))
          have e : wrong kvs ws = 4 := wrong_at (by decide) (by rw [e3, c2]; rfl) hall
          rw [e] at h
          exact h
        | false =>
          refine ite_f rfl (jss_nil ?_)
          exact ⟨_, _, rfl, rfl, by decide, to_succ hall (by rw [e3, c2]; rfl)⟩
      · refine jss_cons (js_if (jt_w (jw_or (jt_cmp (je_var 3 rfl (je_len b.len (je_var 2 rfl ⟨_, .inl ⟨_, rfl, rfl⟩, opd_geI ⟨_, rfl, ite_f (by decide) ?_⟩⟩)))))))
        refine jw_or1 (jt_w (jw_and (jt_val (je_isi b.isinstance b.str boot_str (by decide) (je_ixL (je_var 2 rfl (je_var 3 rfl ⟨_, _, .str "call", rfl, rfl, rfl, _, rfl, _, rfl, ite_t rfl ?_⟩)))))))
        refine jw_and1 (jt_cmp (je_var 4 rfl (je_ixL (je_var 2 rfl (je_var 3 rfl ⟨_, _, .str "call", rfl, rfl, rfl, opd_neS ⟨_, rfl, ?_⟩⟩)))))
        by_cases c : z = "call"
        rotate_left
        · refine ite_t (by rw [decide_eq_false c]; rfl) ?_
          refine jss_one (js_ret (je_op (je_var 3 rfl (je_int (opd_addI ?_)))))
          have e : wrong kvs ws = 5 := wrong_at (by decide) (by unfold okAt; rw [q]; exact decide_eq_false c) hall
          rw [e] at h
          exact h
        refine ite_f (by rw [decide_eq_true c]; rfl) (jss_nil ?_)
        refine jss_cons (js_if (jt_w (jw_or (jt_w (jw_and (jt_cmp (je_ixL (je_var 2 rfl (je_var 3 rfl ⟨_, _, .str "call", rfl, rfl, rfl, je_non (opd_isN (by simp) ⟨_, rfl, ite_f rfl (ite_f rfl ?_)⟩)⟩)))))))))
        refine jw_or1 (jt_w (jw_and (jt_cmp (je_ixL (je_var 2 rfl (je_var 3 rfl ⟨_, _, .str "call", rfl, rfl, rfl, je_int (opd_eqD hu (by decide +kernel) (by decide +kernel) ⟨_, rfl, ite_f (by decide +kernel) (ite_f rfl (jss_nil ?_))⟩)⟩))))))
        refine jss_one (js_if (jt_w (jw_and (jt_cmp (je_var 3 rfl (je_int (opd_eqI ⟨_, rfl, ite_f (by decide) (ite_f rfl (jss_nil ?_))⟩)))))))
        exact ⟨_, _, rfl, rfl, by decide, to_succ hall (show okAt kvs ws 4 = true by unfold okAt; rw [q]; exact decide_eq_true c)⟩
      · refine jss_cons (js_if (jt_w (jw_or (jt_cmp (je_var 3 rfl (je_len b.len (je_var 2 rfl ⟨_, .inl ⟨_, rfl, rfl⟩, opd_geI ⟨_, rfl, ite_f (by decide) ?_⟩⟩)))))))
        refine jw_or1 (jt_w (jw_and (jt_val (je_isi b.isinstance b.str boot_str (by decide) (je_ixL (je_var 2 rfl (je_var 3 rfl ⟨_, _, .non, rfl, rfl, rfl, _, rfl, _, rfl, ite_f rfl (ite_f rfl (jss_nil ?_))⟩)))))))
        refine jss_cons (js_if (jt_w (jw_or (jt_w (jw_and (jt_cmp (je_ixL (je_var 2 rfl (je_var 3 rfl ⟨_, _, .non, rfl, rfl, rfl, je_non (opd_isN (by simp) ⟨_, rfl, ite_t rfl ?_⟩)⟩)))))))))
        refine jw_and1 (jt_not (jt_val (je_call gN (hr.mono (by decide)) (ja_cons (je_var 4 rfl (ja_nil (use_name okz ⟨_, rfl, ?_⟩)))))))
        cases c : isName (.str z) with
        | false =>
          refine ite_t rfl (ite_t rfl ?_)
          refine jss_one (js_ret (je_op (je_var 3 rfl (je_int (opd_addI ?_)))))
          have e : wrong kvs ws = 6 := wrong_at (by decide) (by unfold okAt; rw [q]; exact c) hall
          rw [e] at h
          exact h
        | true =>
        refine ite_f rfl ?_
        refine jw_or1 (jt_w (jw_and (jt_cmp (je_ixL (je_var 2 rfl (je_var 3 rfl ⟨_, _, .non, rfl, rfl, rfl, je_int (opd_eqD hu (by decide +kernel) (by decide +kernel) ⟨_, rfl, ite_f (by decide +kernel) (ite_f rfl (jss_nil ?_))⟩)⟩))))))
        refine jss_one (js_if (jt_w (jw_and (jt_cmp (je_var 3 rfl (je_int (opd_eqI ⟨_, rfl, ite_f (by decide) (ite_f rfl (jss_nil ?_))⟩)))))))
        exact ⟨_, _, rfl, rfl, by decide, to_succ hall (show okAt kvs ws 5 = true by unfold okAt; rw [q]; exact c)⟩
      · refine jss_cons (js_if (jt_w (jw_or (jt_cmp (je_var 3 rfl (je_len b.len (je_var 2 rfl ⟨_, .inl ⟨_, rfl, rfl⟩, opd_geI ⟨_, rfl, ite_f (by decide) ?_⟩⟩)))))))
        refine jw_or1 (jt_w (jw_and (jt_val (je_isi b.isinstance b.str boot_str (by decide) (je_ixL (je_var 2 rfl (je_var 3 rfl ⟨_, _, .str "told", rfl, rfl, rfl, _, rfl, _, rfl, ite_t rfl ?_⟩)))))))
        refine jw_and1 (jt_cmp (je_var 4 rfl (je_ixL (je_var 2 rfl (je_var 3 rfl ⟨_, _, .str "told", rfl, rfl, rfl, opd_neS ⟨_, rfl, ?_⟩⟩)))))
        by_cases c : z = "told"
        rotate_left
        · refine ite_t (by rw [decide_eq_false c]; rfl) ?_
          refine jss_one (js_ret (je_op (je_var 3 rfl (je_int (opd_addI ?_)))))
          have e : wrong kvs ws = 7 := wrong_at (by decide) (by unfold okAt; rw [q]; exact decide_eq_false c) hall
          rw [e] at h
          exact h
        refine ite_f (by rw [decide_eq_true c]; rfl) (jss_nil ?_)
        refine jss_cons (js_if (jt_w (jw_or (jt_w (jw_and (jt_cmp (je_ixL (je_var 2 rfl (je_var 3 rfl ⟨_, _, .str "told", rfl, rfl, rfl, je_non (opd_isN (by simp) ⟨_, rfl, ite_f rfl (ite_f rfl ?_)⟩)⟩)))))))))
        refine jw_or1 (jt_w (jw_and (jt_cmp (je_ixL (je_var 2 rfl (je_var 3 rfl ⟨_, _, .str "told", rfl, rfl, rfl, je_int (opd_eqD hu (by decide +kernel) (by decide +kernel) ⟨_, rfl, ite_f (by decide +kernel) (ite_f rfl (jss_nil ?_))⟩)⟩))))))
        refine jss_one (js_if (jt_w (jw_and (jt_cmp (je_var 3 rfl (je_int (opd_eqI ⟨_, rfl, ite_f (by decide) (ite_f rfl (jss_nil ?_))⟩)))))))
        exact ⟨_, _, rfl, rfl, by decide, to_succ hall (show okAt kvs ws 6 = true by unfold okAt; rw [q]; exact decide_eq_true c)⟩
      · refine jss_cons (js_if (jt_w (jw_or (jt_cmp (je_var 3 rfl (je_len b.len (je_var 2 rfl ⟨_, .inl ⟨_, rfl, rfl⟩, opd_geI ⟨_, rfl, ite_f (by decide) ?_⟩⟩)))))))
        refine jw_or1 (jt_w (jw_and (jt_val (je_isi b.isinstance b.str boot_str (by decide) (je_ixL (je_var 2 rfl (je_var 3 rfl ⟨_, _, .int 0, rfl, rfl, rfl, _, rfl, _, rfl, ite_f rfl (ite_f rfl (jss_nil ?_))⟩)))))))
        refine jss_cons (js_if (jt_w (jw_or (jt_w (jw_and (jt_cmp (je_ixL (je_var 2 rfl (je_var 3 rfl ⟨_, _, .int 0, rfl, rfl, rfl, je_non (opd_isN (by simp) ⟨_, rfl, ite_f rfl (ite_f rfl ?_)⟩)⟩)))))))))
        refine jw_or1 (jt_w (jw_and (jt_cmp (je_ixL (je_var 2 rfl (je_var 3 rfl ⟨_, _, .int 0, rfl, rfl, rfl, je_int (opd_eqD hu (by decide +kernel) (by decide +kernel) ⟨_, rfl, ite_t (by decide +kernel) ?_⟩)⟩))))))
        refine jw_and1 (jt_not (jt_val (je_call gM (hr.mono (by decide)) (ja_cons (je_var 4 rfl (ja_nil (use_num hz ⟨_, rfl, ?_⟩)))))))
        cases c : numB z with
        | false =>
          refine ite_t rfl ?_
          refine jss_one (js_ret (je_op (je_var 3 rfl (je_int (opd_addI ?_)))))
          have e : wrong kvs ws = 8 := wrong_at (by decide) (by unfold okAt; rw [q]; exact c) hall
          rw [e] at h
          exact h
        | true =>
        refine ite_f rfl (jss_nil ?_)
        refine jss_one (js_if (jt_w (jw_and (jt_cmp (je_var 3 rfl (je_int (opd_eqI ⟨_, rfl, ite_f (by decide) (ite_f rfl (jss_nil ?_))⟩)))))))
        exact ⟨_, _, rfl, rfl, by decide, to_succ hall (show okAt kvs ws 7 = true by unfold okAt; rw [q]; exact c)⟩
      · refine jss_cons (js_if (jt_w (jw_or (jt_cmp (je_var 3 rfl (je_len b.len (je_var 2 rfl ⟨_, .inl ⟨_, rfl, rfl⟩, opd_geI ⟨_, rfl, ite_f (by decide) ?_⟩⟩)))))))
        refine jw_or1 (jt_w (jw_and (jt_val (je_isi b.isinstance b.str boot_str (by decide) (je_ixL (je_var 2 rfl (je_var 3 rfl ⟨_, _, .str "silent", rfl, rfl, rfl, _, rfl, _, rfl, ite_t rfl ?_⟩)))))))
        refine jw_and1 (jt_cmp (je_var 4 rfl (je_ixL (je_var 2 rfl (je_var 3 rfl ⟨_, _, .str "silent", rfl, rfl, rfl, opd_neS ⟨_, rfl, ?_⟩⟩)))))
        by_cases c : z = "silent"
        rotate_left
        · refine ite_t (by rw [decide_eq_false c]; rfl) ?_
          refine jss_one (js_ret (je_op (je_var 3 rfl (je_int (opd_addI ?_)))))
          have e : wrong kvs ws = 9 := wrong_at (by decide) (by unfold okAt; rw [q]; exact decide_eq_false c) hall
          rw [e] at h
          exact h
        refine ite_f (by rw [decide_eq_true c]; rfl) (jss_nil ?_)
        refine jss_cons (js_if (jt_w (jw_or (jt_w (jw_and (jt_cmp (je_ixL (je_var 2 rfl (je_var 3 rfl ⟨_, _, .str "silent", rfl, rfl, rfl, je_non (opd_isN (by simp) ⟨_, rfl, ite_f rfl (ite_f rfl ?_)⟩)⟩)))))))))
        refine jw_or1 (jt_w (jw_and (jt_cmp (je_ixL (je_var 2 rfl (je_var 3 rfl ⟨_, _, .str "silent", rfl, rfl, rfl, je_int (opd_eqD hu (by decide +kernel) (by decide +kernel) ⟨_, rfl, ite_f (by decide +kernel) (ite_f rfl (jss_nil ?_))⟩)⟩))))))
        refine jss_one (js_if (jt_w (jw_and (jt_cmp (je_var 3 rfl (je_int (opd_eqI ⟨_, rfl, ite_f (by decide) (ite_f rfl (jss_nil ?_))⟩)))))))
        exact ⟨_, _, rfl, rfl, by decide, to_succ hall (show okAt kvs ws 8 = true by unfold okAt; rw [q]; exact decide_eq_true c)⟩
      · refine jss_cons (js_if (jt_w (jw_or (jt_cmp (je_var 3 rfl (je_len b.len (je_var 2 rfl ⟨_, .inl ⟨_, rfl, rfl⟩, opd_geI ⟨_, rfl, ite_f (by decide) ?_⟩⟩)))))))
        refine jw_or1 (jt_w (jw_and (jt_val (je_isi b.isinstance b.str boot_str (by decide) (je_ixL (je_var 2 rfl (je_var 3 rfl ⟨_, _, .int 0, rfl, rfl, rfl, _, rfl, _, rfl, ite_f rfl (ite_f rfl (jss_nil ?_))⟩)))))))
        refine jss_cons (js_if (jt_w (jw_or (jt_w (jw_and (jt_cmp (je_ixL (je_var 2 rfl (je_var 3 rfl ⟨_, _, .int 0, rfl, rfl, rfl, je_non (opd_isN (by simp) ⟨_, rfl, ite_f rfl (ite_f rfl ?_)⟩)⟩)))))))))
        refine jw_or1 (jt_w (jw_and (jt_cmp (je_ixL (je_var 2 rfl (je_var 3 rfl ⟨_, _, .int 0, rfl, rfl, rfl, je_int (opd_eqD hu (by decide +kernel) (by decide +kernel) ⟨_, rfl, ite_t (by decide +kernel) ?_⟩)⟩))))))
        refine jw_and1 (jt_not (jt_val (je_call gM (hr.mono (by decide)) (ja_cons (je_var 4 rfl (ja_nil (use_num hz ⟨_, rfl, ?_⟩)))))))
        cases c : numB z with
        | false =>
          refine ite_t rfl ?_
          refine jss_one (js_ret (je_op (je_var 3 rfl (je_int (opd_addI ?_)))))
          have e : wrong kvs ws = 10 := wrong_at (by decide) (by unfold okAt; rw [q]; exact c) hall
          rw [e] at h
          exact h
        | true =>
        refine ite_f rfl (jss_nil ?_)
        refine jss_one (js_if (jt_w (jw_and (jt_cmp (je_var 3 rfl (je_int (opd_eqI ⟨_, rfl, ite_f (by decide) (ite_f rfl (jss_nil ?_))⟩)))))))
        exact ⟨_, _, rfl, rfl, by decide, to_succ hall (show okAt kvs ws 9 = true by unfold okAt; rw [q]; exact c)⟩
    · rintro Γ M ⟨g3, g4, rfl, rfl, hi, hall⟩
      rw [enumD_length, List.length_map] at hi hall
      refine jss_one (js_ret (je_ifExp (jt_cmp (je_len b.len (je_var 0 rfl ⟨_, .inl ⟨_, rfl, rfl⟩, je_len b.len (je_var 2 rfl ⟨_, .inl ⟨_, rfl, rfl⟩, opd_ltI ⟨_, rfl, ?_⟩⟩)⟩)))))
      rw [List.length_map]
      by_cases c : ws.length < 10
      · have e : wrong kvs ws = ws.length + 1 := wrong_at c (by unfold okAt; rw [List.getElem?_eq_none (Nat.le_refl _)]) hall
        refine ite_t (decide_eq_true (by show (ws.length : Int) < 10; omega)) (je_op (je_len b.len (je_var 0 rfl ⟨_, .inl ⟨_, rfl, rfl⟩, je_int (opd_addI ?_)⟩)))
        rw [e] at h
        rw [List.length_map]
        exact h
      · have e : wrong kvs ws = 0 := by rw [wrong_end (fun j hj => hall j (by omega)), if_pos (by omega)]
        rw [e] at h
        exact ite_f (decide_eq_false (by show ¬ (ws.length : Int) < 10; omega)) (je_int h)
end
end K28
end

section
set_option Elab.async false
set_option linter.all false
set_option maxRecDepth 100000
set_option maxHeartbeats 4000000
set_option pp.maxSteps 700
set_option hygiene false
open PySem PyProof.Rows L2 DL
namespace K28
open PySem PySem.Spec PyProof.Rows L2 DL TL DN
abbrev sWhy : Stmt := top 37
noncomputable def spWhy (C CT : Addr) (T : Tabs3) : DL.Spec := fun ds M Φ Ψ => ∃ d n, ds = [d] ∧ M = T.mem ∧ tyN d = some n ∧ ((∀ z, d ≠ .str z) → Φ (.tup [.int 0, .int 0]) T.mem) ∧
  ∀ z, d = .str z → z.length ≤ 80000 ∧ (∀ kvs, parse (rowsZ z) [] 0 = .ok kvs → MetOk kvs → Φ .non T.mem) ∧ (∀ l n, parse (rowsZ z) [] 0 = .error (l, n) → Φ (.tup [.int (l : Nat), .int (n : Nat)]) T.mem)
section
variable {P : Program} {w : World} {K : PySem.W.Frag} {mg : Str → Option Value} {base : Heap} {f : Addr} {fd : FuncData} {C CT : Addr} {T : Tabs3}
theorem scWhy : FnScope ["text", "error"] ["text"] (defScope sWhy) := ⟨rfl, rfl, rfl, by decide +kernel, rfl, by decide +kernel, by decide +kernel⟩
theorem ok_why (F : Fun K "_law_why" "_law_why" sWhy f fd) (gP : GFn P w K mg base 10 "plan_of" [] (spPlanOf C CT T)) (gT : GXc P w K mg base 1 "BadText" CT ["line", "word"]) (te : PySem.W.exmOne K (.ref CT) (.ref CT) = some true) : FnOk P w K mg base (L2.CX P w) 11 f fd ["text"] (spD K (spWhy C CT T)) := by
  refine fn_d F scWhy (fun ds M Φ Ψ h => ?_) (fun cdv A outer s H E hr ds M Φ Ψ h => ?_)
  · obtain ⟨_, _, rfl, _⟩ := h
    rfl
  · obtain ⟨d, n, rfl, rfl, hn, no, yes⟩ := h
    have nd := scWhy.nd
    have w1 : ("line" : Str) ∈ (["line", "word"] : List Str) := List.mem_cons_self
    have w2 : ("word" : Str) ∈ (["line", "word"] : List Str) := List.mem_cons_of_mem _ List.mem_cons_self
    show JSs _ [some d, none] T.mem _ _
    refine jss_cons (js_try_as 1 (c := .ref CT) nd ⟨rfl, by decide, Or.inl gT.hm⟩ fun pn xe po => ?_)
    refine jss_one (js_expr (je_call gP (hr.mono (by decide)) (ja_cons (je_var 0 rfl (ja_nil (.many [0, 1, 2] T.mem rfl (by decide) ⟨d, n, rfl, rfl, hn, fun q _ => ?_, fun z e => ?_⟩))))))
    · refine ⟨true, te, fun _ => ⟨List.cons_ne_nil _ _, fun a dd oe pn' hz hf => ?_⟩, fun e => Bool.noConfusion e⟩
      refine jss_one (js_ret (je_tup (ja_cons (je_xf gT.rd (gT.no _ w1) hz hf (je_var 1 rfl ⟨_, .int 0, rfl, rfl, ?_⟩)))))
      exact ja_cons (je_xf gT.rd (gT.no _ w2) hz hf (je_var 1 rfl ⟨_, .int 0, rfl, rfl, ja_nil ⟨by simp, no q⟩⟩))
    · obtain ⟨hz, ok, bad⟩ := yes z e
      refine ⟨hz, fun kvs h1 h2 _ => jss_one (js_ret (je_non (ok kvs h1 h2))), fun l k h1 _ => ?_⟩
      refine ⟨true, te, fun _ => ⟨List.cons_ne_nil _ _, fun a dd oe pn' hz hf => ?_⟩, fun e => Bool.noConfusion e⟩
      refine jss_one (js_ret (je_tup (ja_cons (je_xf gT.rd (gT.no _ w1) hz hf (je_var 1 rfl ⟨_, .int (l : Nat), rfl, rfl, ?_⟩)))))
      exact ja_cons (je_xf gT.rd (gT.no _ w2) hz hf (je_var 1 rfl ⟨_, .int (k : Nat), rfl, rfl, ja_nil ⟨by simp, bad l k h1⟩⟩))
end
end K28
end

section
set_option Elab.async false
set_option linter.all false
set_option maxRecDepth 100000
set_option maxHeartbeats 4000000
set_option pp.maxSteps 700
set_option hygiene false
open PySem PyProof.Rows L2 DL
set_option pp.maxSteps 100
namespace K28
open PySem PySem.Spec PyProof.Rows L2 DL TL DN
abbrev sDue : Stmt := top 35
noncomputable def linesZ (z : Str) : List Str := if z = "" then [] else Txt.split z ("\n" : Str)
theorem rowsZ_lines (z : Str) : rowsZ z = (linesZ z).map fun y => Txt.split y (" " : Str) := by
  unfold rowsZ linesZ DN.linesOf
  split <;> rfl
noncomputable def spDue : DL.Spec := fun ds M Φ _ => ∃ z : Str, ds = [.str z] ∧ M = [] ∧ z.length ≤ 80000 ∧ (∀ kvs, parse (rowsZ z) [] 0 = .ok kvs → MetOk kvs → Φ (.tup [.non, .lst (kvs.map (·.2))]) []) ∧
  ∀ l n, parse (rowsZ z) [] 0 = .error (l, n) → Φ (.tup [.tup [.int (l : Nat), .int (n : Nat)], .lst []]) []
section
variable {P : Program} {w : World} {K : PySem.W.Frag} {mg : Str → Option Value} {base : Heap} {f : Addr} {fd : FuncData}
theorem scDue : FnScope ["text", "met", "rows", "at", "line", "words", "wrong"] ["text"] (defScope sDue) := ⟨rfl, rfl, rfl, by decide +kernel, rfl, by decide +kernel, by decide +kernel⟩
theorem ok_due (F : Fun K "_law_due" "_law_due" sDue f fd) (b : Bn mg) (be : mg "enumerate" = none) (gW : GFn P w K mg base 2 "_law_wrong_word" [] spWrong) : FnOk P w K mg base (L2.CX P w) 3 f fd ["text"] (spD K spDue) := by
  refine fn_dcp F scDue (fun ds M Φ Ψ h => ?_) (fun cdv A outer s H E hr' ds M Φ Ψ h => ?_)
  · obtain ⟨_, rfl, _⟩ := h
    rfl
  · obtain ⟨z, rfl, rfl, hz, yes, bad⟩ := h
    have nd := scDue.nd
    show JSs _ [some (.str z), none, none, none, none, none, none] [] _ _
    refine jss_cons (js_par 1 2 (ja_cons (je_lstC (ja_nil ⟨by simp, fun m => ja_cons (je_lstC (ja_nil ⟨by simp, fun r => ja_nil ⟨_, _, rfl, ?_⟩⟩))⟩))) nd)
    show JSs _ [some (.str z), some (.raw (.ref m)), some (.raw (.ref r)), none, none, none, none] [(m, .lst []), (r, .lst [])] _ _
    refine jss_cons (js_for (passes_of rfl) (ji_enum be (JE.imp (Φ := fun d M1 => d = .lst ((linesZ z).map .str) ∧ M1 = [(m, .lst []), (r, .lst [])]) ?_ fun d M1 hd => ?_)))
    · refine je_ifExp (jt_cmp (je_var 0 rfl (je_str (opd_neS ⟨_, rfl, ?_⟩))))
      by_cases c : z = ""
      · refine ite_f (by rw [decide_eq_true c]; rfl) (je_lst (ja_nil ⟨by simp, ?_, rfl⟩))
        unfold linesZ
        rw [if_pos c]
        rfl
      · refine ite_t (by rw [decide_eq_false c]; rfl) (je_m PySem.F.plainAttrs_str PySem.F.slot_str_split PySem.F.type_str_split (je_var 0 rfl ⟨.inl ⟨rfl, _, rfl⟩, ja_cons (je_str (ja_nil (md_split rfl (by omega) ⟨?_, rfl⟩)))⟩))
        unfold linesZ
        rw [if_neg c]
    obtain ⟨rfl, rfl⟩ := hd
    refine ⟨_, rfl, ?_⟩
    have hll : (linesZ z).length ≤ z.length + 1 := by
      unfold linesZ
      split
      · simp
      · exact (nl_is z).1
    refine ⟨fun i Γ M => ∃ g3 g4 g5 g6 kvs, Γ = [some (.str z), some (.raw (.ref m)), some (.raw (.ref r)), g3, g4, g5, g6] ∧ M = [(m, .lst (kvs.map (·.1))), (r, .lst (kvs.map (·.2)))] ∧ MetOk kvs ∧ kvs.length ≤ i ∧ parse (rowsZ z) [] 0 = parse ((rowsZ z).drop i) kvs i, ⟨none, none, none, none, [], rfl, rfl, ⟨by simp, fun kv hk => by cases hk⟩, Nat.le_refl _, by rw [List.drop_zero]⟩, ?_, ?_⟩
    · rintro i x Γ M hx ⟨g3, g4, g5, g6, kvs, rfl, rfl, hm, hk, hp⟩
      obtain ⟨y, hy, rfl⟩ := enumD_get hx
      rw [List.getElem?_map] at hy
      cases q : (linesZ z)[i]? with
      | none => rw [q] at hy; cases hy
      | some y0 =>
      rw [q] at hy
      cases hy
      have hi := (List.getElem?_eq_some_iff.mp q).1
      have hzne : z ≠ "" := fun e => by
        unfold linesZ at hi
        rw [if_pos e] at hi
        exact absurd hi (Nat.not_lt_zero _)
      have hmem : y0 ∈ Txt.split z ("\n" : Str) := by
        have := List.mem_of_getElem? q
        unfold linesZ at this
        rwa [if_neg hzne] at this
      have hy0 := ((nl_is z).2.1 y0 hmem).1
      have hr : (rowsZ z)[i]? = some (Txt.split y0 (" " : Str)) := by rw [rowsZ_lines, List.getElem?_map, q]; rfl
      have hri := (List.getElem?_eq_some_iff.mp hr).1
      have hdr : (rowsZ z).drop i = Txt.split y0 (" " : Str) :: (rowsZ z).drop (i + 1) := by
        rw [List.drop_eq_getElem_cons hri, (List.getElem?_eq_some_iff.mp hr).2]
      have hws : Txt.split y0 (" " : Str) ∈ DN.linesOf z := by
        unfold DN.linesOf
        exact List.mem_map.mpr ⟨y0, hmem, rfl⟩
      have hw := rows_wok hz hws
      rw [hdr] at hp
      refine jg_tup (jgs_cons (jg_name 3 (jgs_cons (jg_name 4 (jgs_nil ?_) nd)) nd)) rfl
      show JSs _ [some (.str z), some (.raw (.ref m)), some (.raw (.ref r)), some (.int (i : Nat)), some (.str y0), g5, g6] [(m, .lst (kvs.map (·.1))), (r, .lst (kvs.map (·.2)))] _ _
      refine jss_cons (js_set (hN := nd) 5 (je_m PySem.F.plainAttrs_str PySem.F.slot_str_split PySem.F.type_str_split (je_var 4 rfl ⟨.inl ⟨rfl, _, rfl⟩, ja_cons (je_str (ja_nil (md_split rfl (by omega) ?_)))⟩)))
      generalize Txt.split y0 (" " : Str) = ws at hw hp
      show JSs _ [some (.str z), some (.raw (.ref m)), some (.raw (.ref r)), some (.int (i : Nat)), some (.str y0), some (.lst (ws.map .str)), g6] [(m, .lst (kvs.map (·.1))), (r, .lst (kvs.map (·.2)))] _ _
      refine jss_cons (js_set (hN := nd) 6 (je_call gW (hr'.mono (by decide)) (ja_cons (je_var 5 rfl (ja_cons (je_var 1 rfl (ja_nil (.one 0 m _ rfl ⟨m, ws, kvs, rfl, rfl, hw, hm, fun c' e => ?_⟩))))))))
      cases e
      show JSs _ [some (.str z), some (.raw (.ref m)), some (.raw (.ref r)), some (.int (i : Nat)), some (.str y0), some (.lst (ws.map .str)), some (.int (wrong kvs ws : Nat))] [(m, .lst (kvs.map (·.1))), (r, .lst (kvs.map (·.2)))] _ _
      refine jss_cons (js_if (jt_cmp (je_var 6 rfl (je_int (opd_gtI ⟨_, rfl, ?_⟩)))))
      cases e : wrong kvs ws with
      | succ k =>
        have he : parse (rowsZ z) [] 0 = .error (i + 1, k + 1) := by
          rw [hp]
          unfold parse
          rw [e]
        refine ite_t (decide_eq_true (by omega)) (jss_one (js_ret (je_tup (ja_cons (je_tup (ja_cons (je_op (je_var 3 rfl (je_int (opd_addI (ja_cons (je_var 6 rfl (ja_nil ⟨by simp, ja_cons (je_lst (ja_nil ⟨by simp, ja_nil ⟨by simp, .inl ?_⟩⟩))⟩)))))))))))))
        exact bad _ _ he
      | zero =>
        refine ite_f (decide_eq_false (by omega)) (jss_nil ?_)
        obtain ⟨all, _⟩ := all_ok e
        obtain ⟨q1, q2⟩ := met_put hm e
        obtain ⟨o1, o2⟩ := row_ok e
        have g : ∀ j (hj : j < 10), atI (ws.map D.str) (j : Nat) = some (.str (ws.getD j "")) := fun j hj => by
          obtain ⟨y, y1, y2⟩ := ok_get (all j hj)
          rw [DN.atI_nat, List.getElem?_map, y1, y2]
          rfl
        have gn : ∀ j, okAt kvs ws j = true → (j = 3 ∨ j = 7 ∨ j = 9) → numB (ws.getD j "") = true := fun j hj hc => by
          obtain ⟨y, y1, y2⟩ := ok_get hj
          unfold okAt at hj
          rw [y1] at hj
          rw [y2]
          rcases hc with rfl | rfl | rfl
          · exact (Bool.and_eq_true_iff.mp hj).1
          · exact hj
          · exact hj
        obtain ⟨v1, _, _, v2⟩ := num_val (gn 3 (all 3 (by decide)) (.inl rfl))
        obtain ⟨v3, _, _, v4⟩ := num_val (gn 7 (all 7 (by decide)) (.inr (.inl rfl)))
        obtain ⟨v5, _, _, v6⟩ := num_val (gn 9 (all 9 (by decide)) (.inr (.inr rfl)))
        have hlast : ∀ (ks : List D) (d : D), atI (ks ++ [d]) (-1) = some d := fun ks d => by
          have e1 : ixN (ks ++ [d]).length (-1) = some ks.length := by
            unfold ixN
            rw [List.length_append]
            simp only [List.length_cons, List.length_nil]
            simp
            omega
          unfold atI
          rw [e1]
          show (ks ++ [d])[ks.length]? = some d
          simp
        refine jss_cons (js_expr (je_m PySem.F.plainAttrs_list PySem.F.slot_list_append PySem.F.type_list_append (je_var 1 rfl ⟨.inr ⟨rfl, .inr ⟨0, m, _, rfl, rfl⟩⟩, ja_cons (je_tup (ja_cons (je_ixL (je_var 5 rfl (je_int ⟨_, _, _, rfl, rfl, g 1 (by decide), ?_⟩)))))⟩)))
        refine ja_cons (je_callT b.int boot_int (ja_cons (je_ixL (je_var 5 rfl (je_int ⟨_, _, _, rfl, rfl, g 3 (by decide), ja_nil (cd_intS v1 v2 (ja_nil ⟨by simp, ja_nil (md_append 0 rfl (by rw [List.length_map]; omega) ?_)⟩))⟩)))))
        show JSs _ [some (.str z), some (.raw (.ref m)), some (.raw (.ref r)), some (.int (i : Nat)), some (.str y0), some (.lst (ws.map .str)), some (.int (0 : Nat))] [(m, .lst (kvs.map (·.1) ++ [.tup [.str (ws.getD 1 ""), .int (valN (ws.getD 3 ""))]])), (r, .lst (kvs.map (·.2)))] _ _
        refine jss_one (js_expr (je_m PySem.F.plainAttrs_list PySem.F.slot_list_append PySem.F.type_list_append (je_var 2 rfl ⟨.inr ⟨rfl, .inr ⟨1, r, _, rfl, rfl⟩⟩, ja_cons (je_op (je_ixC 0 (je_var 1 rfl (je_neg (je_int ⟨1, rfl, m, _, -1, _, rfl, rfl, rfl, hlast _ _, je_tup ?_⟩)))))⟩)))
        refine ja_cons (je_ixL (je_var 5 rfl (je_int ⟨_, _, _, rfl, rfl, g 5 (by decide), ?_⟩)))
        refine ja_cons (je_callT b.int boot_int (ja_cons (je_ixL (je_var 5 rfl (je_int ⟨_, _, _, rfl, rfl, g 7 (by decide), ja_nil (cd_intS v3 v4 ?_)⟩)))))
        refine ja_cons (je_callT b.int boot_int (ja_cons (je_ixL (je_var 5 rfl (je_int ⟨_, _, _, rfl, rfl, g 9 (by decide), ja_nil (cd_intS v5 v6 (ja_nil ⟨by simp, opd_addT (by simp) ?_⟩))⟩)))))
        refine ja_nil (md_append 1 rfl (by rw [List.length_map]; omega) ?_)
        refine ⟨_, _, _, _, ptD kvs (key2 (rowD ws)) (rowD ws), rfl, ?_, q1, by omega, ?_⟩
        · rw [pt_new o2, List.map_append, List.map_append]
          rfl
        · rw [hp]
          conv => lhs; unfold parse
          rw [e]
    · rintro Γ M ⟨g3, g4, g5, g6, kvs, rfl, rfl, hm, hk, hp⟩
      have hlen : (enumD ((linesZ z).map D.str)).length = (rowsZ z).length := by rw [enumD_length, List.length_map, rowsZ_lines, List.length_map]
      rw [hlen, List.drop_length] at hp
      have hp : parse (rowsZ z) [] 0 = .ok kvs := hp
      exact jss_one (js_ret (je_tup (ja_cons (je_non (ja_cons (je_var 2 rfl (ja_nil ⟨by simp, .inr ⟨1, r, _, .non, by show 0 ≤ 1; decide, rfl, rfl, yes kvs hp hm⟩⟩)))))))
end
end K28
end

section
set_option Elab.async false
set_option linter.all false
set_option maxRecDepth 100000
set_option maxHeartbeats 4000000
set_option pp.maxSteps 700
set_option hygiene false
open PySem PyProof.Rows L2 DL
set_option pp.maxSteps 100
namespace K28
open PySem PySem.Spec PyProof.Rows L2 DL TL DN
theorem joinL_len (s : Nat) : ∀ (ps : List (List Nat)), ps ≠ [] → (joinL [s] ps).length + 1 = (ps.map (·.length)).sum + ps.length
  | [], h => absurd rfl h
  | [p], _ => by simp [joinL]
  | p :: q :: r, _ => by
    have ih := joinL_len s (q :: r) (by simp)
    simp only [joinL, List.length_append, List.map_cons, List.sum_cons, List.length_cons, List.length_nil] at ih ⊢
    omega
theorem tl_length (z : Str) : (tl z).length = z.length := by
  show z.cps.toList.length = z.cps.size
  exact Array.length_toList
/-- the length of a joined text -/
theorem join_len {y : Str} {s : Nat} (ey : tl y = [s]) {ps : List Str} (h : ps ≠ []) : (Txt.join y ps).length + 1 = (ps.map (·.length)).sum + ps.length := by
  have e := joinL_len s (ps.map tl) (by simpa using h)
  rw [← tl_length, join_eq, tl_join, ey, e, List.map_map, List.length_map]
  congr 2
/-- the lengths of the parts of a text -/
theorem parts_len {y z : Str} {s : Nat} (ey : tl y = [s]) (h : Pcs y z) : ((Txt.split z y).map (·.length)).sum + (Txt.split z y).length = z.length + 1 := by
  rw [← join_len ey h.2.2.1, h.2.2.2]
theorem sum_take (xs : List Nat) (n : Nat) : (xs.take n).sum + (xs.drop n).sum = xs.sum := by
  rw [← List.sum_append, List.take_append_drop]
end K28
end

section
set_option Elab.async false
set_option linter.all false
set_option maxRecDepth 100000
set_option maxHeartbeats 4000000
set_option pp.maxSteps 700
set_option hygiene false
open PySem PyProof.Rows L2 DL
set_option pp.maxSteps 100
namespace K28
open PySem PySem.Spec PyProof.Rows L2 DL TL DN
/-- the signs of texts and their count -/
def tot (ps : List Str) : Nat := (ps.map (·.length)).sum + ps.length
theorem tot_app (a b : List Str) : tot (a ++ b) = tot a + tot b := by
  simp only [tot, List.map_append, List.sum_append, List.length_append]
  omega
theorem tot_one (x : Str) : tot [x] = x.length + 1 := by simp [tot]
theorem tot_take (a : List Str) (n : Nat) : tot (a.take n) + tot (a.drop n) = tot a := by
  rw [← tot_app, List.take_append_drop]
theorem tot_cut (a : List Str) (lo hi : Option Int) : tot (DL.cutD a lo hi) ≤ tot a := by
  unfold DL.cutD
  have h1 := tot_take a (HT.sIx a.length 0 lo)
  have h2 := tot_take (a.drop (HT.sIx a.length 0 lo)) (HT.sIx a.length a.length hi - HT.sIx a.length 0 lo)
  omega
theorem tot_mem {a : List Str} {x : Str} (h : x ∈ a) : x.length + 1 ≤ tot a := by
  obtain ⟨s, t, rfl⟩ := List.append_of_mem h
  rw [tot_app, show x :: t = [x] ++ t from rfl, tot_app, tot_one]
  omega
theorem tot_set (x : Str) : ∀ (a : List Str) (i : Nat), tot (a.set i x) ≤ tot a + x.length
  | [], _ => by simp [tot]
  | y :: a, 0 => by
    have h1 : tot (x :: a) = x.length + 1 + tot a := by rw [show x :: a = [x] ++ a from rfl, tot_app, tot_one]
    have h2 : tot (y :: a) = y.length + 1 + tot a := by rw [show y :: a = [y] ++ a from rfl, tot_app, tot_one]
    show tot (x :: a) ≤ _
    omega
  | y :: a, i + 1 => by
    have ih := tot_set x a i
    have h1 : tot (y :: a.set i x) = y.length + 1 + tot (a.set i x) := by rw [show y :: a.set i x = [y] ++ a.set i x from rfl, tot_app, tot_one]
    have h2 : tot (y :: a) = y.length + 1 + tot a := by rw [show y :: a = [y] ++ a from rfl, tot_app, tot_one]
    show tot (y :: a.set i x) ≤ _
    omega
theorem tot_len (a : List Str) : a.length ≤ tot a := by
  unfold tot
  omega
theorem join_tot {y : Str} {s : Nat} (ey : tl y = [s]) (ps : List Str) : (Txt.join y ps).length ≤ tot ps := by
  cases ps with
  | nil => exact Nat.le_of_eq rfl
  | cons p r =>
    have := join_len ey (List.cons_ne_nil p r)
    unfold tot
    omega
theorem join_room {y : Str} {s : Nat} (ey : tl y = [s]) {ps : List Str} (h : tot ps ≤ 1000000) : (ps.map (·.length)).sum + ps.length * y.length ≤ 1000000 := by
  have : y.length = 1 := by rw [← tl_length, ey]; rfl
  rw [this, Nat.mul_one]
  exact h
theorem cut_map (xs : List Str) (lo hi : Option Int) : DL.cutD (xs.map D.str) lo hi = (DL.cutD xs lo hi).map .str := by
  unfold DL.cutD
  rw [List.length_map, List.map_take, List.map_drop]
theorem tot_hole {ls : List Str} {a : Nat} {x : Str} (h : ls[a]? = some x) : tot (ls.take a) + (x.length + 1) + tot (ls.drop (a + 1)) = tot ls := by
  obtain ⟨h1, h2⟩ := List.getElem?_eq_some_iff.mp h
  have e : ls.drop a = x :: ls.drop (a + 1) := by rw [List.drop_eq_getElem_cons h1, h2]
  have h3 := tot_take ls a
  rw [e, show x :: ls.drop (a + 1) = [x] ++ ls.drop (a + 1) from rfl, tot_app, tot_one] at h3
  omega
theorem cut_hole {ls : List Str} {a : Nat} {x : Str} (h : ls[a]? = some x) (y : Str) : tot ((DL.cutD ls none (some (a : Int)) ++ [y]) ++ DL.cutD ls (some ((a : Int) + 1)) none) + x.length = tot ls + y.length := by
  have h1 := (List.getElem?_eq_some_iff.mp h).1
  rw [DN.cut_pre (by omega), show ((a : Int) + 1) = ((a + 1 : Nat) : Int) from rfl, DN.cut_suf (by omega), tot_app, tot_app, tot_one]
  have := tot_hole h
  omega
theorem md_joinL2 {X : Cx} {M : Mem} {Φ : D → Mem → Prop} {a : Str} {ys : List Str} {xs : List D} (e : xs = ys.map .str) (hl : (ys.map (·.length)).sum + ys.length * a.length ≤ 1000000) (h : Φ (.str (Txt.join a ys)) M) : MetD X "str.join" (.str a) [.lst xs] M Φ := by
  subst e
  exact md_joinL hl h
theorem str_app_len (a b : Str) : (a ++ b).length = a.length + b.length := by
  show (a.cps ++ b.cps).size = _
  rw [Array.size_append]
  rfl
theorem ixN_nat {n j : Nat} (hj : j < n) : ixN n (j : Int) = some j := by
  unfold ixN
  rw [if_pos (by omega), if_pos (by omega)]
  simp
abbrev sSpoilt : Stmt := top 36
noncomputable def spSpoilt : DL.Spec := fun ds M Φ _ => ∃ p z n c, ds = [.raw (.ref p), .str z] ∧ M = [(p, c)] ∧ PenIs (n + 10) c ∧ z.length ≤ 30000 ∧ ∀ z' c', z'.length ≤ 2 * z.length + 100 → PenIs n c' → Φ (.str z') [(p, c')]
section
variable {P : Program} {w : World} {K : PySem.W.Frag} {mg : Str → Option Value} {base : Heap} {f : Addr} {fd : FuncData}
theorem scSpoilt : FnScope ["pen", "text", "lines", "way", "place", "at", "words", "spot"] ["pen", "text"] (defScope sSpoilt) := ⟨rfl, rfl, rfl, by decide +kernel, rfl, by decide +kernel, by decide +kernel⟩
theorem ok_spoilt (F : Fun K "_law_spoilt" "_law_spoilt" sSpoilt f fd) (b : Bn mg) (gD : GFn P w K mg base 1 "_law_draw" [] spDraw) (gK : GFn P w K mg base 2 "_law_pick" [] spPick) (gS : GFn P w K mg base 2 "_law_pick" [] spPickS) (gC : GFn P w K mg base 2 "_law_pick" [] spPickC) : FnOk P w K mg base (L2.CX P w) 3 f fd ["pen", "text"] (spD K spSpoilt) := by
  refine fn_d F scSpoilt (fun ds M Φ Ψ h => ?_) (fun cdv A outer s H E hr ds M Φ Ψ h => ?_)
  · obtain ⟨_, _, _, _, rfl, _⟩ := h
    rfl
  · obtain ⟨p, z, n, c, rfl, rfl, hc, hz, h⟩ := h
    have nd := scSpoilt.nd
    have h1 := nl_is z
    have enl : tl ("\n" : Str) = [10] := rfl
    have esp : tl (" " : Str) = [32] := rfl
    show JSs _ [some (.raw (.ref p)), some (.str z), none, none, none, none, none, none] [(p, c)] _ _
    refine jss_cons (js_par3 (hN := nd) 2 3 4 (ja_cons (je_m PySem.F.plainAttrs_str PySem.F.slot_str_split PySem.F.type_str_split (je_var 1 rfl ⟨.inl ⟨rfl, _, rfl⟩, ja_cons (je_str (ja_nil (md_split rfl (by omega) ?_)))⟩))))
    refine ja_cons (je_call gD (hr.mono (by decide)) (ja_cons (je_var 0 rfl (ja_cons (je_int (ja_nil (use_draw (n := n + 9) 0 rfl hc (by omega) (by omega) fun way c a0 a1 hc => ?_)))))))
    refine ja_cons (je_call gD (hr.mono (by decide)) (ja_cons (je_var 0 rfl (ja_cons (je_op (je_len b.len (je_var 1 rfl ⟨_, .inr (.inr (.inl ⟨z, rfl, by omega, rfl⟩)), je_int (opd_addI (ja_nil (use_draw (n := n + 8) 0 rfl hc (by omega) (by omega) fun place c b0 b1 hc => ?_)))⟩)))))))
    refine ja_nil ⟨_, _, _, rfl, ?_⟩
    have hP := split_is enl (by decide +kernel) z
    have hls : tot (Txt.split z ("\n" : Str)) = z.length + 1 := parts_len enl hP
    have hl0 : 0 < (Txt.split z ("\n" : Str)).length := List.length_pos_iff.mpr hP.2.2.1
    generalize Txt.split z ("\n" : Str) = ls at hls hl0 ⊢
    clear h1 hP
    have hll := tot_len ls
    show JSs _ [some (.raw (.ref p)), some (.str z), some (.lst (ls.map .str)), some (.int way), some (.int place), none, none, none] [(p, c)] _ _
    refine jss_cons (js_set (hN := nd) 5 (je_call gD (hr.mono (by decide)) (ja_cons (je_var 0 rfl (ja_cons (je_len b.len (je_var 2 rfl ⟨_, .inl ⟨_, rfl, rfl⟩, ja_nil (use_draw (n := n + 7) 0 rfl hc (by rw [List.length_map]; omega) (by rw [List.length_map]; omega) fun at' c c0 c1 hc => ?_)⟩)))))))
    obtain ⟨a, rfl⟩ := Int.eq_ofNat_of_zero_le c0
    rw [List.length_map] at c1
    have c1 : a < ls.length := by omega
    obtain ⟨l0, hl⟩ : ∃ l0, ls[a]? = some l0 := ⟨_, List.getElem?_eq_getElem c1⟩
    have ha' : atI (ls.map D.str) (a : Nat) = some (.str l0) := by
      rw [DN.atI_nat, List.getElem?_map, hl]
      rfl
    have hlt := tot_mem (List.mem_of_getElem? hl)
    have hole := cut_hole hl
    show JSs _ [some (.raw (.ref p)), some (.str z), some (.lst (ls.map .str)), some (.int way), some (.int place), some (.int (a : Nat)), none, none] [(p, c)] _ _
    have hPw := split_is esp (by decide +kernel) l0
    have hws : tot (Txt.split l0 (" " : Str)) = l0.length + 1 := parts_len esp hPw
    have hw0 : 0 < (Txt.split l0 (" " : Str)).length := List.length_pos_iff.mpr hPw.2.2.1
    clear hPw
    have cuts : ∀ x : Str, ((DL.cutD (ls.map D.str) none (some ((a : Nat) : Int)) ++ [.str x]) ++ DL.cutD (ls.map D.str) (some (((a : Nat) : Int) + 1)) none) = ((DL.cutD ls none (some ((a : Nat) : Int)) ++ [x]) ++ DL.cutD ls (some (((a : Nat) : Int) + 1)) none).map .str := fun x => by
      rw [cut_map, cut_map, List.map_append, List.map_append]
      rfl
    have cl : ∀ (lo hi : Option Int), (DL.cutD (ls.map D.str) lo hi).length ≤ ls.length := fun lo hi => by
      unfold DL.cutD
      simp only [List.length_take, List.length_drop, List.length_map]
      omega
    by_cases hway : way ≤ 3
    · refine jss_cons (js_set (hN := nd) 6 (je_m PySem.F.plainAttrs_str PySem.F.slot_str_split PySem.F.type_str_split (je_ixL (je_var 2 rfl (je_var 5 rfl ⟨_, _, _, rfl, rfl, ha', .inl ⟨rfl, _, rfl⟩, ja_cons (je_str (ja_nil (md_split rfl (by omega) ?_)))⟩)))))
      generalize Txt.split l0 (" " : Str) = ws at hws hw0 ⊢
      have hwl := tot_len ws
      have wcl : ∀ (lo hi : Option Int), (DL.cutD (ws.map D.str) lo hi).length ≤ ws.length := fun lo hi => by
        unfold DL.cutD
        simp only [List.length_take, List.length_drop, List.length_map]
        omega
      show JSs _ [some (.raw (.ref p)), some (.str z), some (.lst (ls.map .str)), some (.int way), some (.int place), some (.int (a : Nat)), some (.lst (ws.map .str)), none] [(p, c)] _ _
      refine jss_cons (js_set (hN := nd) 7 (je_call gD (hr.mono (by decide)) (ja_cons (je_var 0 rfl (ja_cons (je_len b.len (je_var 6 rfl ⟨_, .inl ⟨_, rfl, rfl⟩, ja_nil (use_draw (n := n + 6) 0 rfl hc (by rw [List.length_map]; omega) (by rw [List.length_map]; omega) fun spot c d0 d1 hc => ?_)⟩)))))))
      show JSs _ [some (.raw (.ref p)), some (.str z), some (.lst (ls.map .str)), some (.int way), some (.int place), some (.int (a : Nat)), some (.lst (ws.map .str)), some (.int spot)] [(p, c)] _ _
      refine jss_cons (js_if (jt_cmp (je_var 3 rfl (je_int (opd_eqI ⟨_, rfl, ?_⟩)))))
      refine ite_2 (fun e => ?_) fun e0 => jss_nil ?_
      · have q1 := cutS_length z none (some place)
        have q2 := cutS_length z (some place) none
        refine jss_one (js_ret (je_op (je_op (je_slice (je_var 1 rfl (jo_none (jo_some (je_var 4 rfl ⟨_, rfl, by show z.length ≤ 1000000; omega, _, rfl, ?_⟩))))))))
        refine je_call gS (hr.mono (by decide)) (ja_cons (je_var 0 rfl (ja_cons (je_str (ja_nil (use_pickS (n := n + 5) 0 rfl hc (by decide) (by decide) fun sg c hsg hc => ?_))))))
        have q3 : (Str.mk #[sg]).length = 1 := rfl
        have q4 := str_app_len (cutS z none (some place)) ⟨#[sg]⟩
        refine opd_addS (by omega) (je_slice (je_var 1 rfl (jo_some (je_var 4 rfl ⟨_, rfl, jo_none ⟨by show z.length ≤ 1000000; omega, _, rfl, ?_⟩⟩))))
        refine opd_addS (by omega) (h _ c ?_ (hc.less (by omega)))
        rw [str_app_len]
        omega
      refine jss_cons (js_if (jt_cmp (je_var 3 rfl (je_int (opd_eqI ⟨_, rfl, ?_⟩)))))
      refine ite_2 (fun e => ?_) fun e1 => jss_nil ?_
      · have q1 := cutS_length z none (some place)
        have q2 := cutS_length z (some (place + 1)) none
        refine jss_one (js_ret (je_op (je_slice (je_var 1 rfl (jo_none (jo_some (je_var 4 rfl ⟨_, rfl, by show z.length ≤ 1000000; omega, _, rfl, ?_⟩)))))))
        refine je_slice (je_var 1 rfl (jo_some (je_op (je_var 4 rfl (je_int (opd_addI ⟨_, rfl, jo_none ⟨by show z.length ≤ 1000000; omega, _, rfl, ?_⟩⟩))))))
        refine opd_addS (by omega) (h _ c ?_ (hc.less (by omega)))
        rw [str_app_len]
        omega
      refine jss_cons (js_if (jt_cmp (je_var 3 rfl (je_int (opd_eqI ⟨_, rfl, ?_⟩)))))
      refine ite_2 (fun e => ?_) fun e2 => jss_nil ?_
      · have q1 := tot_cut ws none (some (-1))
        have q2 : tot (DL.cutD ws none (some (-1)) ++ [("77" : Str)]) = tot (DL.cutD ws none (some (-1))) + 3 := by rw [tot_app, tot_one]; rfl
        have q3 := join_tot esp (DL.cutD ws none (some (-1)) ++ [("77" : Str)])
        have q4 : tot (ls ++ [Txt.join (" " : Str) (DL.cutD ws none (some (-1)) ++ [("77" : Str)])]) = tot ls + ((Txt.join (" " : Str) (DL.cutD ws none (some (-1)) ++ [("77" : Str)])).length + 1) := by rw [tot_app, tot_one]
        have q5 := join_tot enl (ls ++ [Txt.join (" " : Str) (DL.cutD ws none (some (-1)) ++ [("77" : Str)])])
        refine jss_one (js_ret (je_m PySem.F.plainAttrs_str PySem.F.slot_str_join PySem.F.type_str_join (je_str ⟨.inl ⟨rfl, _, rfl⟩, ja_cons (je_op (je_var 2 rfl (je_lst (ja_cons ?_))))⟩)))
        refine je_m PySem.F.plainAttrs_str PySem.F.slot_str_join PySem.F.type_str_join (je_str ⟨.inl ⟨rfl, _, rfl⟩, ja_cons (je_op (je_slice (je_var 6 rfl (jo_none (jo_some (je_neg (je_int ⟨1, rfl, _, rfl, True.intro, _, rfl, ?_⟩)))))))⟩)
        refine je_lst (ja_cons (je_str (ja_nil ⟨by show 1 ≤ 1000000; decide, opd_addL ?_ (ja_nil ?_)⟩)))
        · have := wcl none (some (-1))
          show _ + 1 ≤ 1000000
          omega
        refine md_joinL2 (ys := DL.cutD ws none (some (-1)) ++ [("77" : Str)]) (by rw [cut_map, List.map_append]; rfl) (join_room esp (by omega)) (ja_nil ⟨by show 1 ≤ 1000000; decide, opd_addL ?_ (ja_nil ?_)⟩)
        · rw [List.length_map]
          show _ + 1 ≤ 1000000
          omega
        refine md_joinL2 (ys := ls ++ [Txt.join (" " : Str) (DL.cutD ws none (some (-1)) ++ [("77" : Str)])]) (by rw [List.map_append]; rfl) (join_room enl (by omega)) (h _ c (by omega) (hc.less (by omega)))
      refine jss_cons (js_if (jt_cmp (je_var 3 rfl (je_int (opd_eqI ⟨_, rfl, ?_⟩)))))
      refine ite_2 (fun e => ?_) fun e3 => absurd (of_decide_eq_false e3) (by have := of_decide_eq_false e0; have := of_decide_eq_false e1; have := of_decide_eq_false e2; omega)
      have q1 := tot_cut ws none (some spot)
      have q3 := join_tot esp (DL.cutD ws none (some spot))
      have q4 := hole (Txt.join (" " : Str) (DL.cutD ws none (some spot)))
      have q5 := join_tot enl ((DL.cutD ls none (some ((a : Nat) : Int)) ++ [Txt.join (" " : Str) (DL.cutD ws none (some spot))]) ++ DL.cutD ls (some (((a : Nat) : Int) + 1)) none)
      refine jss_one (js_ret (je_m PySem.F.plainAttrs_str PySem.F.slot_str_join PySem.F.type_str_join (je_str ⟨.inl ⟨rfl, _, rfl⟩, ja_cons (je_op (je_op (je_slice (je_var 2 rfl (jo_none (jo_some (je_var 5 rfl ⟨_, rfl, True.intro, _, rfl, ?_⟩)))))))⟩)))
      refine je_lst (ja_cons (je_m PySem.F.plainAttrs_str PySem.F.slot_str_join PySem.F.type_str_join (je_str ⟨.inl ⟨rfl, _, rfl⟩, ja_cons (je_slice (je_var 6 rfl (jo_none (jo_some (je_var 7 rfl ⟨_, rfl, True.intro, _, rfl, ja_nil ?_⟩)))))⟩)))
      refine md_joinL2 (ys := DL.cutD ws none (some spot)) (cut_map _ _ _) (join_room esp (by omega)) (ja_nil ⟨by show 1 ≤ 1000000; decide, opd_addL ?_ ?_⟩)
      · have := cl none (some ((a : Nat) : Int))
        show _ + 1 ≤ 1000000
        omega
      refine je_slice (je_var 2 rfl (jo_some (je_op (je_var 5 rfl (je_int (opd_addI ⟨_, rfl, jo_none ⟨True.intro, _, rfl, opd_addL ?_ (ja_nil ?_)⟩⟩))))))
      · have g1 := cl none (some ((a : Nat) : Int))
        have g2 := cl (some (((a : Nat) : Int) + 1)) none
        rw [List.length_append]
        show _ + 1 + _ ≤ 1000000
        omega
      refine md_joinL2 (ys := (DL.cutD ls none (some ((a : Nat) : Int)) ++ [Txt.join (" " : Str) (DL.cutD ws none (some spot))]) ++ DL.cutD ls (some (((a : Nat) : Int) + 1)) none) (cuts _) (join_room enl (by omega)) (h _ c (by omega) (hc.less (by omega)))
    · refine jss_cons (js_set (hN := nd) 6 (je_m PySem.F.plainAttrs_str PySem.F.slot_str_split PySem.F.type_str_split (je_ixL (je_var 2 rfl (je_var 5 rfl ⟨_, _, _, rfl, rfl, ha', .inl ⟨rfl, _, rfl⟩, ja_cons (je_str (ja_nil (md_splitC rfl (by omega) fun t => ?_)))⟩)))))
      generalize Txt.split l0 (" " : Str) = ws at hws hw0 ⊢
      have hwl := tot_len ws
      show JSs _ [some (.raw (.ref p)), some (.str z), some (.lst (ls.map .str)), some (.int way), some (.int place), some (.int (a : Nat)), some (.raw (.ref t)), none] [(p, c), (t, .lst (ws.map .str))] _ _
      refine jss_cons (js_set (hN := nd) 7 (je_call gD (hr.mono (by decide)) (ja_cons (je_var 0 rfl (ja_cons (je_len b.len (je_var 6 rfl ⟨_, .inr (.inr (.inr (.inr (.inr ⟨1, t, _, rfl, rfl, rfl⟩)))), ja_nil (use_draw (n := n + 6) 0 rfl hc (by rw [List.length_map]; omega) (by rw [List.length_map]; omega) fun spot c d0 d1 hc => ?_)⟩)))))))
      rw [List.length_map] at d1
      show JSs _ [some (.raw (.ref p)), some (.str z), some (.lst (ls.map .str)), some (.int way), some (.int place), some (.int (a : Nat)), some (.raw (.ref t)), some (.int spot)] [(p, c), (t, .lst (ws.map .str))] _ _
      refine jss_cons (js_if (jt_cmp (je_var 3 rfl (je_int (opd_eqI ⟨_, rfl, ite_f (decide_eq_false (by omega)) (jss_nil ?_)⟩)))))
      refine jss_cons (js_if (jt_cmp (je_var 3 rfl (je_int (opd_eqI ⟨_, rfl, ite_f (decide_eq_false (by omega)) (jss_nil ?_)⟩)))))
      refine jss_cons (js_if (jt_cmp (je_var 3 rfl (je_int (opd_eqI ⟨_, rfl, ite_f (decide_eq_false (by omega)) (jss_nil ?_)⟩)))))
      refine jss_cons (js_if (jt_cmp (je_var 3 rfl (je_int (opd_eqI ⟨_, rfl, ite_f (decide_eq_false (by omega)) (jss_nil ?_)⟩)))))
      obtain ⟨j, rfl⟩ := Int.eq_ofNat_of_zero_le d0
      have d1 : j < ws.length := by omega
      refine jss_cons (js_lput 1 (je_call gK (hr.mono (by decide)) (ja_cons (je_var 0 rfl (ja_cons (je_lst ?_))))))
      refine ja_cons (je_str (ja_cons (je_str (ja_cons (je_str (ja_cons (je_op (je_str (je_int (opd_mulS ⟨by decide, by decide +kernel, by decide +kernel⟩ ?_))))))))))
      refine ja_cons (je_op (je_str (je_int (opd_mulS ⟨by decide, by decide +kernel, by decide +kernel⟩ ?_))))
      refine ja_cons (je_str (ja_cons (je_str (ja_cons (je_str (ja_cons (je_str (ja_cons (je_str (ja_cons (je_str ?_)))))))))))
      refine ja_cons (je_op (je_str (je_int (opd_mulS ⟨by decide, by decide +kernel, by decide +kernel⟩ ?_))))
      refine ja_cons (je_str (ja_cons (je_call gC (hr.mono (by decide)) (ja_cons (je_var 0 rfl (ja_cons (je_var 6 rfl (ja_nil ?_))))))))
      refine use_pickC (n := n + 5) 0 1 (by decide) rfl rfl hc (fun e => ?_) (by rw [List.length_map]; omega) fun y c hy hc => ?_
      · have := congrArg List.length e
        rw [List.length_map] at this
        simp only [List.length_nil] at this
        omega
      refine ja_nil ⟨by show 14 ≤ 1000000; decide, ja_nil (use_pick (n := n + 4) 0 rfl hc (List.cons_ne_nil _ _) (by show 14 ≤ 1000000; decide) fun x c hx hc => ?_)⟩
      have hx : ∃ y : Str, x = .str y ∧ y.length ≤ 41 + l0.length := by
        obtain ⟨yw, hyw, rfl⟩ := List.mem_map.mp hy
        have hyl := tot_mem hyw
        simp only [List.mem_cons, List.not_mem_nil, or_false] at hx
        rcases hx with rfl | rfl | rfl | rfl | rfl | rfl | rfl | rfl | rfl | rfl | rfl | rfl | rfl | rfl
        case inr.inr.inr.inr.inr.inr.inr.inr.inr.inr.inr.inr.inr => exact ⟨_, rfl, by omega⟩
        all_goals exact ⟨_, rfl, Nat.le_trans (by decide +kernel) (Nat.le_add_right 41 _)⟩
      obtain ⟨y, rfl, hyl⟩ := hx
      refine je_var 6 rfl (je_var 7 rfl ⟨t, _, _, j, rfl, rfl, rfl, ?_, ?_⟩)
      · exact ixN_nat (by rw [List.length_map]; exact d1)
      have es : (ws.map D.str).set j (.str y) = (ws.set j y).map .str := by rw [List.map_set]
      rw [es]
      have hst := tot_set y ws j
      have hsl : (ws.set j y).length = ws.length := List.length_set ..
      generalize ws.set j y = vs at hst hsl ⊢
      show JSs _ [some (.raw (.ref p)), some (.str z), some (.lst (ls.map .str)), some (.int way), some (.int place), some (.int (a : Nat)), some (.raw (.ref t)), some (.int (j : Nat))] [(p, c), (t, .lst (vs.map .str))] _ _
      refine jss_one (js_ret (je_m PySem.F.plainAttrs_str PySem.F.slot_str_join PySem.F.type_str_join (je_str ⟨.inl ⟨rfl, _, rfl⟩, ja_cons (je_op (je_op (je_slice (je_var 2 rfl (jo_none (jo_some (je_var 5 rfl ⟨_, rfl, True.intro, _, rfl, ?_⟩)))))))⟩)))
      refine je_lst (ja_cons (je_m PySem.F.plainAttrs_str PySem.F.slot_str_join PySem.F.type_str_join (je_str ⟨.inl ⟨rfl, _, rfl⟩, ja_cons (je_op (je_var 6 rfl (je_ifExp (jt_cmp (je_var 3 rfl (je_int (opd_eqI ⟨_, rfl, ?_⟩)))))))⟩)))
      refine ite_2 (fun _ => je_lst (ja_cons (je_str (ja_nil ⟨by show 1 ≤ 1000000; decide, opd_addCL 1 rfl (by rw [List.length_map]; show _ + 1 ≤ 1000000; omega) ?_⟩)))) fun _ => je_lst (ja_nil ⟨by show 0 ≤ 1000000; decide, opd_addCL 1 rfl (by rw [List.length_map]; show _ + 0 ≤ 1000000; omega) ?_⟩)
      · have q2 : tot (vs ++ [("x" : Str)]) = tot vs + 2 := by rw [tot_app, tot_one]; rfl
        have q3 := join_tot esp (vs ++ [("x" : Str)])
        have q4 := hole (Txt.join (" " : Str) (vs ++ [("x" : Str)]))
        have q5 := join_tot enl ((DL.cutD ls none (some ((a : Nat) : Int)) ++ [Txt.join (" " : Str) (vs ++ [("x" : Str)])]) ++ DL.cutD ls (some (((a : Nat) : Int) + 1)) none)
        refine ja_nil (md_joinL2 (ys := vs ++ [("x" : Str)]) (by rw [List.map_append]; rfl) (join_room esp (by omega)) (ja_nil ⟨by show 1 ≤ 1000000; decide, opd_addL ?_ ?_⟩))
        · have := cl none (some ((a : Nat) : Int))
          show _ + 1 ≤ 1000000
          omega
        refine je_slice (je_var 2 rfl (jo_some (je_op (je_var 5 rfl (je_int (opd_addI ⟨_, rfl, jo_none ⟨True.intro, _, rfl, opd_addL ?_ (ja_nil ?_)⟩⟩))))))
        · have g1 := cl none (some ((a : Nat) : Int))
          have g2 := cl (some (((a : Nat) : Int) + 1)) none
          rw [List.length_append]
          show _ + 1 + _ ≤ 1000000
          omega
        refine md_joinL2 (ys := (DL.cutD ls none (some ((a : Nat) : Int)) ++ [Txt.join (" " : Str) (vs ++ [("x" : Str)])]) ++ DL.cutD ls (some (((a : Nat) : Int) + 1)) none) (cuts _) (join_room enl (by omega)) (h _ c (by omega) (hc.less (by omega)))
      · have q3 := join_tot esp vs
        have q4 := hole (Txt.join (" " : Str) vs)
        have q5 := join_tot enl ((DL.cutD ls none (some ((a : Nat) : Int)) ++ [Txt.join (" " : Str) vs]) ++ DL.cutD ls (some (((a : Nat) : Int) + 1)) none)
        refine ja_nil (md_joinL2 (ys := vs) (List.append_nil _) (join_room esp (by omega)) (ja_nil ⟨by show 1 ≤ 1000000; decide, opd_addL ?_ ?_⟩))
        · have := cl none (some ((a : Nat) : Int))
          show _ + 1 ≤ 1000000
          omega
        refine je_slice (je_var 2 rfl (jo_some (je_op (je_var 5 rfl (je_int (opd_addI ⟨_, rfl, jo_none ⟨True.intro, _, rfl, opd_addL ?_ (ja_nil ?_)⟩⟩))))))
        · have g1 := cl none (some ((a : Nat) : Int))
          have g2 := cl (some (((a : Nat) : Int) + 1)) none
          rw [List.length_append]
          show _ + 1 + _ ≤ 1000000
          omega
        refine md_joinL2 (ys := (DL.cutD ls none (some ((a : Nat) : Int)) ++ [Txt.join (" " : Str) vs]) ++ DL.cutD ls (some (((a : Nat) : Int) + 1)) none) (cuts _) (join_room enl (by omega)) (h _ c (by omega) (hc.less (by omega)))
end
end K28
end

section
set_option Elab.async false
set_option linter.all false
set_option maxRecDepth 100000
set_option maxHeartbeats 4000000
set_option pp.maxSteps 700
set_option hygiene false
open PySem PyProof.Rows L2 DL
set_option pp.maxSteps 100
namespace K28
open PySem PySem.Spec PyProof.Rows L2 DL TL DN
theorem num_head (n : Nat) (h : 0 < n) : (numL n).headD 0 ≠ 48 := by
  induction n using Nat.strongRecOn with
  | _ n ih =>
    by_cases h10 : n < 10
    · rw [numL_lt h10]
      show 48 + n ≠ 48
      omega
    · rw [numL_step (by omega)]
      have := ih (n / 10) (by omega) (by omega)
      have ne := numL_ne (n / 10)
      cases e : numL (n / 10) with
      | nil => exact absurd e ne
      | cons c r =>
        rw [e] at this
        exact this
theorem tl_toS (n : Nat) : tl (Str.ofString (toString ((n : Nat) : Int))) = numL n := tl_num n
theorem num_txt {i : Int} (h0 : 0 ≤ i) (h1 : i ≤ MOST) : numB (toString i : String) = true ∧ valN (toString i : String) = i ∧ (32 ∉ tl (toString i : String)) ∧ 10 ∉ tl (toString i : String) := by
  obtain ⟨n, rfl⟩ := Int.eq_ofNat_of_zero_le h0
  have hl := (int_len h0 h1).1
  have ht := tl_toS n
  have hlen : (numL n).length = (Str.ofString (toString ((n : Nat) : Int))).length := by rw [← ht, tl_length]
  refine ⟨?_, ?_, ?_, ?_⟩
  · show (decide (1 ≤ (((Str.ofString (toString ((n : Nat) : Int))).length : Nat) : Int)) && (decide ((((Str.ofString (toString ((n : Nat) : Int))).length : Nat) : Int) ≤ 40) && (figAll (Str.ofString (toString ((n : Nat) : Int))) && numTail (Str.ofString (toString ((n : Nat) : Int)))))) = true
    have h3 : 0 < (numL n).length := List.length_pos_iff.mpr (numL_ne n)
    rw [decide_eq_true (by omega), decide_eq_true (by omega), Bool.true_and, Bool.true_and, Bool.and_eq_true]
    constructor
    · unfold figAll
      rw [List.all_eq_true]
      intro c hc
      have hc : c ∈ tl (Str.ofString (toString ((n : Nat) : Int))) := hc
      rw [ht] at hc
      exact decide_eq_true (mem_figs.mpr (numL_digits n c hc))
    · unfold numTail
      rw [Bool.or_eq_true]
      by_cases hn : n = 0
      · subst hn
        exact .inl (by decide +kernel)
      · right
        rw [Bool.not_eq_true', decide_eq_false_iff_not]
        intro e
        have e2 : [(tl (Str.ofString (toString ((n : Nat) : Int)))).headD 0] = tl ("0" : Str) := by
          rw [← e]
        rw [ht] at e2
        have e3 : tl ("0" : Str) = [48] := rfl
        rw [e3] at e2
        exact num_head n (by omega) (List.cons.inj e2).1
  · show (intText? (Str.ofString (toString ((n : Nat) : Int)))).getD 0 = _
    rw [int_num (by omega)]
    rfl
  · show 32 ∉ tl (Str.ofString (toString ((n : Nat) : Int)))
    rw [ht]
    exact numL_free (by omega)
  · show 10 ∉ tl (Str.ofString (toString ((n : Nat) : Int)))
    rw [ht]
    exact numL_free (by omega)
def wordsR (a : Str) (m : Int) (c : Str) (k e : Int) : List Str := ["at", a, "memory", (toString m : String), "call", c, "told", (toString k : String), "silent", (toString e : String)]
def wordsD : D → List Str
  | .tup [.str a, .int m, .str c, .int k, .int e] => wordsR a m c k e
  | _ => []
theorem words_free {a c : Str} {m k e : Int} (h1 : isName (.str a) = true) (h2 : isName (.str c) = true) (h3 : 0 ≤ m ∧ m ≤ MOST) (h4 : 0 ≤ k ∧ k ≤ MOST) (h5 : 0 ≤ e ∧ e ≤ MOST) : ∀ p ∈ wordsR a m c k e, 32 ∉ tl p ∧ 10 ∉ tl p := by
  have n1 := name_sign h1
  have n2 := name_sign h2
  have n3 := num_txt h3.1 h3.2
  have n4 := num_txt h4.1 h4.2
  have n5 := num_txt h5.1 h5.2
  intro p hp
  simp only [wordsR, List.mem_cons, List.not_mem_nil, or_false] at hp
  rcases hp with rfl | rfl | rfl | rfl | rfl | rfl | rfl | rfl | rfl | rfl
  · decide +kernel
  · exact ⟨n1.2.1, n1.1⟩
  · decide +kernel
  · exact n3.2.2
  · decide +kernel
  · exact ⟨n2.2.1, n2.1⟩
  · decide +kernel
  · exact n4.2.2
  · decide +kernel
  · exact n5.2.2
theorem line_words {x : D} (h : isRow x = true) : Txt.split (lineD x) (" " : Str) = wordsD x ∧ 10 ∉ tl (lineD x) ∧ lineD x ≠ "" := by
  obtain ⟨a, m, c, k, e, rfl, h1, h2, h3, h4, h5⟩ := row_parts h
  have hf := words_free h1 h2 h3 h4 h5
  have hl : lineD (.tup [.str a, .int m, .str c, .int k, .int e]) = ll a m c k e := (ll_fl a m c k e).symm
  rw [hl]
  refine ⟨split_join (s := 32) (S := []) rfl (by decide +kernel) (by simp [wordsR]) fun p hp => (hf p hp).1, ?_, ?_⟩
  · show 10 ∉ tl (Txt.join " " (wordsR a m c k e))
    rw [join_eq, tl_join]
    intro hm
    have : ∀ (ps : List (List Nat)), (∀ p ∈ ps, 10 ∉ p) → 10 ∉ joinL [32] ps := by
      intro ps
      induction ps with
      | nil => intro _ h; cases h
      | cons p r ih =>
        intro h
        cases r with
        | nil => exact h p List.mem_cons_self
        | cons q r =>
          show 10 ∉ p ++ ([32] ++ joinL [32] (q :: r))
          rw [List.mem_append, List.mem_append]
          rintro (h1 | h1 | h1)
          · exact h p List.mem_cons_self h1
          · revert h1
            decide
          · exact ih (fun p hp => h p (List.mem_cons_of_mem _ hp)) h1
    refine this _ (fun p hp => ?_) hm
    obtain ⟨q, hq, rfl⟩ := List.mem_map.mp hp
    exact (hf q hq).2
  · intro e0
    have e1 := congrArg tl e0
    have e2 : tl (ll a m c k e) = joinL [32] ((wordsR a m c k e).map tl) := by
      show tl (Txt.join " " (wordsR a m c k e)) = _
      rw [join_eq, tl_join]
      rfl
    rw [e2] at e1
    have e3 : joinL [32] ((wordsR a m c k e).map tl) = tl ("at" : Str) ++ ([32] ++ joinL [32] (((wordsR a m c k e).map tl).tail)) := rfl
    rw [e3] at e1
    have e4 := congrArg List.length e1
    rw [List.length_append] at e4
    have e5 : (tl ("at" : Str)).length = 2 := rfl
    have e6 : (tl ("" : Str)).length = 0 := rfl
    omega
theorem rowsZ_join {rows : List D} (h : ∀ x ∈ rows, isRow x = true) : rowsZ (Txt.join "\n" (rows.map lineD)) = rows.map wordsD := by
  cases rows with
  | nil => rfl
  | cons r rs =>
    have hsp : Txt.split (Txt.join "\n" ((r :: rs).map lineD)) ("\n" : Str) = (r :: rs).map lineD := split_join (s := 10) (S := []) rfl (by decide +kernel) (by simp) fun p hp => by
      obtain ⟨x, hx, rfl⟩ := List.mem_map.mp hp
      exact (line_words (h x hx)).2.1
    have hne : Txt.join "\n" ((r :: rs).map lineD) ≠ "" := fun e => by
      rw [e] at hsp
      have e1 : Txt.split ("" : Str) ("\n" : Str) = [("" : Str)] := by decide +kernel
      rw [e1] at hsp
      have e2 := (List.cons.inj hsp).1
      exact (line_words (h r List.mem_cons_self)).2.2 e2.symm
    rw [rowsZ_lines]
    unfold linesZ
    rw [if_neg hne, hsp, List.map_map]
    refine List.map_congr_left fun x hx => ?_
    exact (line_words (h x hx)).1
theorem row_right {kvs : List (D × D)} {x : D} (h : isRow x = true) (hk : key2 x ∉ kvs.map (·.1)) : wrong kvs (wordsD x) = 0 ∧ rowD (wordsD x) = x := by
  obtain ⟨a, m, c, k, e, rfl, h1, h2, h3, h4, h5⟩ := row_parts h
  obtain ⟨n3, v3, _⟩ := num_txt h3.1 h3.2
  obtain ⟨n4, v4, _⟩ := num_txt h4.1 h4.2
  obtain ⟨n5, v5, _⟩ := num_txt h5.1 h5.2
  have hk : D.tup [.str a, .int m] ∉ kvs.map (·.1) := hk
  constructor
  · refine (wrong_end fun j hj => ?_).trans (if_pos (by show 10 ≤ 10; decide))
    match j, hj with
    | 0, _ =>
      show decide (("at" : Str) = "at") = true
      exact decide_eq_true rfl
    | 1, _ => exact h1
    | 2, _ =>
      show decide (("memory" : Str) = "memory") = true
      exact decide_eq_true rfl
    | 3, _ =>
      show (numB (toString m : String) && !(lkD kvs (.tup [.str a, .int (valN (toString m : String))])).isSome) = true
      rw [n3, v3, lk_none hk]
      rfl
    | 4, _ =>
      show decide (("call" : Str) = "call") = true
      exact decide_eq_true rfl
    | 5, _ => exact h2
    | 6, _ =>
      show decide (("told" : Str) = "told") = true
      exact decide_eq_true rfl
    | 7, _ => exact n4
    | 8, _ =>
      show decide (("silent" : Str) = "silent") = true
      exact decide_eq_true rfl
    | 9, _ => exact n5
  · show D.tup [.str a, .int (valN (toString m : String)), .str c, .int (valN (toString k : String)), .int (valN (toString e : String))] = _
    rw [v3, v4, v5]
theorem parse_rows : ∀ (rows : List D) (kvs : List (D × D)) (i : Nat), (∀ x ∈ rows, isRow x = true) → (rows.map key2).Nodup → (∀ k ∈ rows.map key2, k ∉ kvs.map (·.1)) → parse (rows.map wordsD) kvs i = .ok (kvs ++ rows.map fun x => (key2 x, x))
  | [], kvs, i, _, _, _ => by
    rw [List.map_nil, List.map_nil, List.append_nil]
    rfl
  | x :: rows, kvs, i, h, nd, hk => by
    obtain ⟨w1, w2⟩ := row_right (h x List.mem_cons_self) (hk (key2 x) List.mem_cons_self)
    rw [List.map_cons] at nd
    obtain ⟨nd1, nd2⟩ := List.nodup_cons.mp nd
    have ih := parse_rows rows (kvs ++ [(key2 x, x)]) (i + 1) (fun y hy => h y (List.mem_cons_of_mem _ hy)) nd2 fun k hk2 => by
      rw [List.map_append, List.mem_append]
      rintro (h3 | h3)
      · exact hk k (List.mem_cons_of_mem _ hk2) h3
      · have : k = key2 x := by simpa using h3
        rw [this] at hk2
        exact nd1 hk2
    rw [List.map_cons]
    conv => lhs; unfold parse
    rw [w1]
    show parse (rows.map wordsD) (ptD kvs (key2 (rowD (wordsD x))) (rowD (wordsD x))) (i + 1) = _
    rw [w2, pt_new (hk (key2 x) List.mem_cons_self), ih, List.append_assoc]
    rfl
theorem parse_text {rows : List D} (h : ∀ x ∈ rows, isRow x = true) (nd : (rows.map key2).Nodup) : parse (rowsZ (Txt.join "\n" (rows.map lineD))) [] 0 = .ok (rows.map fun x => (key2 x, x)) := by
  rw [rowsZ_join h, parse_rows rows [] 0 h nd (fun k _ hk => by cases hk)]
  rfl
theorem met_text {rows : List D} (h : ∀ x ∈ rows, isRow x = true) (nd : (rows.map key2).Nodup) : MetOk (rows.map fun x => (key2 x, x)) ∧ (rows.map fun x => (key2 x, x)).map (·.2) = rows := by
  refine ⟨⟨by rw [List.map_map]; exact nd, fun kv hkv => ?_⟩, ?_⟩
  · obtain ⟨x, hx, rfl⟩ := List.mem_map.mp hkv
    exact ⟨h x hx, rfl⟩
  · rw [List.map_map]
    exact List.map_id'' (fun _ => rfl) rows
theorem text_len {rows : List D} (h : ∀ x ∈ rows, isRow x = true) (hl : rows.length ≤ 10) : (Txt.join "\n" (rows.map lineD)).length ≤ 2010 := by
  have h1 := join_tot (y := "\n") rfl (rows.map lineD)
  have h2 := sum_le200 (xs := rows) fun x hx => row_line (h x hx)
  unfold tot at h1
  rw [List.length_map] at h1
  omega
theorem parse_nl : parse (rowsZ ("\n" : Str)) [] 0 = .error (1, 1) := by
  have e1 : rowsZ ("\n" : Str) = [[("" : Str)], [("" : Str)]] := by decide +kernel
  rw [e1]
  have : wrong [] [("" : Str)] = 1 := wrong_at (i := 0) (by decide) (by decide +kernel) fun j hj => absurd hj (Nat.not_lt_zero j)
  unfold parse
  rw [this]
theorem parse_empty : parse (rowsZ ("" : Str)) [] 0 = .ok [] := rfl
end K28
end

section
set_option Elab.async false
set_option linter.all false
set_option maxRecDepth 100000
set_option maxHeartbeats 4000000
set_option pp.maxSteps 700
set_option hygiene false
open PySem PyProof.Rows L2 DL
namespace K28
open PySem PySem.Spec PyProof.Rows L2 DL TL DN
/-! ### the plan -/
theorem plan_put {kvs : List (D × D)} {a c : Str} {m i e : Int} (h : PlanKv kvs) (hl : kvs.length < 100) (hr : isRow (.tup [.str a, .int m, .str c, .int i, .int e]) = true) (he : e ≤ 100) : PlanKv (ptD kvs (.tup [.str a, .int m]) (.tup [.str c, .int i, .int e])) := by
  have hk := pt_keys kvs (.tup [.str a, .int m]) (.tup [.str c, .int i, .int e])
  refine ⟨by have := ptD_length kvs (.tup [.str a, .int m]) (.tup [.str c, .int i, .int e]); omega, ?_, fun kv hkv => ?_⟩
  · rw [hk]
    split
    · exact h.2.1
    · rename_i hn
      refine List.nodup_append.mpr ⟨h.2.1, by simp, fun x hx y hy => ?_⟩
      rw [List.mem_singleton.mp hy]
      exact fun e => hn (by rw [← e]; exact hx)
  · unfold ptD at hkv
    split at hkv
    · obtain ⟨q, hq, rfl⟩ := List.mem_map.mp hkv
      split
      · rename_i e'
        rw [e']
        exact ⟨a, m, c, i, e, rfl, hr, he⟩
      · exact h.2.2 q hq
    · rcases List.mem_append.mp hkv with hkv | hkv
      · exact h.2.2 kv hkv
      · rw [List.mem_singleton.mp hkv]
        exact ⟨a, m, c, i, e, rfl, hr, he⟩
theorem plan_nil : PlanKv [] := ⟨Nat.zero_le _, List.nodup_nil, fun kv h => by simp at h⟩
/-- rows that are the plan's, in any order -/
def RowsOf (kvs : List (D × D)) (rows : List D) : Prop := PlanKv kvs ∧ rows.Perm (kvs.map rowOf)
section
variable {kvs : List (D × D)} {rows : List D}
theorem item_row {kv : D × D} (h : IsItem kv) : isRow (rowOf kv) = true ∧ key2 (rowOf kv) = kv.1 ∧ val3 (rowOf kv) = kv.2 := by
  obtain ⟨a, m, c, i, e, rfl, hr, _⟩ := h
  exact ⟨hr, rfl, rfl⟩
theorem RowsOf.isRow (h : RowsOf kvs rows) : ∀ r ∈ rows, isRow r = true := fun r hr => by
  obtain ⟨kv, hkv, rfl⟩ := List.mem_map.mp (h.2.mem_iff.mp hr)
  exact (item_row (h.1.2.2 kv hkv)).1
theorem RowsOf.len (h : RowsOf kvs rows) : rows.length ≤ 100 := by
  have := h.2.length_eq
  rw [List.length_map] at this
  have := h.1.1
  omega
theorem RowsOf.nodup (h : RowsOf kvs rows) : (rows.map key2).Nodup := by
  have e : (kvs.map rowOf).map key2 = kvs.map (·.1) := by
    rw [List.map_map]
    exact List.map_congr_left fun kv hkv => (item_row (h.1.2.2 kv hkv)).2.1
  have := h.2.map key2
  rw [e] at this
  exact this.nodup_iff.mpr h.1.2.1
theorem plan_ok {rows : List D} (h : ∀ r ∈ rows, isRow r = true) (hn : (rows.map key2).Nodup) : planOk rows = true := by
  unfold planOk
  rw [seen_nodup, decide_eq_true hn, List.all_eq_true.mpr h]
  rfl
theorem told_map : ∀ {xs : List D} {acc : List (D × D)}, (acc.map (·.1) ++ xs.map key2).Nodup → xs.foldl (fun acc r => ptD acc (key2 r) (val3 r)) acc = acc ++ xs.map fun r => (key2 r, val3 r)
  | [], acc, _ => by simp
  | x :: xs, acc, h => by
    rw [List.foldl_cons, List.map_cons]
    have hx : key2 x ∉ acc.map (·.1) := fun m => (List.nodup_append.mp h).2.2 _ m _ (List.mem_map.mpr ⟨x, List.mem_cons_self, rfl⟩) rfl
    have e : ptD acc (key2 x) (val3 x) = acc ++ [(key2 x, val3 x)] := by
      unfold ptD
      rw [if_neg]
      intro q
      obtain ⟨p, hp, e⟩ := List.any_eq_true.mp q
      exact hx (List.mem_map.mpr ⟨p, hp, of_decide_eq_true e⟩)
    rw [e, told_map (acc := acc ++ [(key2 x, val3 x)]) (by
      rw [List.map_append, List.append_assoc]
      exact h), List.append_assoc]
    rfl
theorem lk_perm {l l' : List (D × D)} (hn : (l.map (·.1)).Nodup) (hp : l.Perm l') (k : D) : lkD l k = lkD l' k := by
  have hn' : (l'.map (·.1)).Nodup := (hp.map (·.1)).nodup_iff.mp hn
  by_cases h : k ∈ l.map (·.1)
  · obtain ⟨p, hp', rfl⟩ := List.mem_map.mp h
    rw [lk_mem hn (k := p.1) (v := p.2) hp', lk_mem hn' (k := p.1) (v := p.2) (hp.mem_iff.mp hp')]
  · rw [lk_none h, lk_none fun m => h ((hp.map (·.1)).mem_iff.mpr m)]
/-! ### == of rows -/
theorem eqd_row {x y : D} (hx : isRow x = true) (hy : isRow y = true) (h : eqd x y = true) : x = y := by
  obtain ⟨a, m, c, k, e, rfl⟩ := isRow_is hx
  obtain ⟨a', m', c', k', e', rfl⟩ := isRow_is hy
  simp only [eqd, py, pyA, PyData.eqv, PyData.eqvAll, Bool.and_eq_true, beq_iff_eq, and_true] at h
  obtain ⟨rfl, rfl, rfl, rfl, rfl⟩ := h
  rfl
theorem eqd_rows : ∀ {xs ys : List D}, (∀ x ∈ xs, isRow x = true) → (∀ y ∈ ys, isRow y = true) → eqd (.tup xs) (.tup ys) = true → xs = ys
  | [], [], _, _, _ => rfl
  | [], _ :: _, _, _, h => by simp [eqd, py, pyA, PyData.eqv, PyData.eqvAll] at h
  | _ :: _, [], _, _, h => by simp [eqd, py, pyA, PyData.eqv, PyData.eqvAll] at h
  | x :: xs, y :: ys, hx, hy, h => by
    have h' : (PyData.eqv (py x) (py y) && PyData.eqvAll (pyA xs) (pyA ys)) = true := h
    rw [Bool.and_eq_true] at h'
    rw [eqd_row (hx x List.mem_cons_self) (hy y List.mem_cons_self) h'.1, eqd_rows (fun z hz => hx z (List.mem_cons_of_mem _ hz)) (fun z hz => hy z (List.mem_cons_of_mem _ hz)) h'.2]
theorem eqd_self {x : D} (hx : isRow x = true) : eqd x x = true := by
  obtain ⟨a, m, c, k, e, rfl⟩ := isRow_is hx
  simp [eqd, py, pyA, PyData.eqv, PyData.eqvAll]
theorem eqd_selfs : ∀ {xs : List D}, (∀ x ∈ xs, isRow x = true) → eqd (.tup xs) (.tup xs) = true
  | [], _ => by simp [eqd, py, pyA, PyData.eqv, PyData.eqvAll]
  | x :: xs, hx => by
    show (PyData.eqv (py x) (py x) && PyData.eqvAll (pyA xs) (pyA xs)) = true
    have h1 : PyData.eqv (py x) (py x) = true := eqd_self (hx x List.mem_cons_self)
    have h2 : PyData.eqvAll (pyA xs) (pyA xs) = true := eqd_selfs fun z hz => hx z (List.mem_cons_of_mem _ hz)
    rw [h1, h2]
    rfl
theorem sort_rows {xs : List D} (h : ∀ x ∈ xs, isRow x = true) : ∀ x ∈ sortD xs, isRow x = true := fun x hx => h x (sort_mem.mp hx)
/-- sorting forgets the order -/
theorem sort_perm {xs ys : List D} (h : ∀ x ∈ xs, isRow x = true) (hp : xs.Perm ys) : sortD xs = sortD ys := by
  have T := PySem.W.sortLe_total (listOrd itemOrd) false fun b : D => PySem.W.keyToks (py b)
  have tr : ∀ a b c : D, leD a b = true → leD b c = true → leD a c = true := T.trans
  have tt : ∀ a b : D, (leD a b || leD b a) = true := fun a b => by
    rw [Bool.or_eq_true]
    exact T.total a b
  have p1 := List.pairwise_mergeSort tr tt xs
  have p2 := List.pairwise_mergeSort tr tt ys
  refine List.Perm.eq_of_pairwise (le := fun a b => leD a b = true) (fun x y hx hy h1 h2 => ?_) p1 p2 (((List.mergeSort_perm xs leD).trans hp).trans (List.mergeSort_perm ys leD).symm)
  have ix := h x (sort_mem.mp hx)
  have iy := h y (hp.mem_iff.mpr (sort_mem.mp hy))
  have h1' : (!(listOrd itemOrd).blt (PySem.W.keyToks (py y)) (PySem.W.keyToks (py x))) = true := h1
  have h2' : (!(listOrd itemOrd).blt (PySem.W.keyToks (py x)) (PySem.W.keyToks (py y))) = true := h2
  rw [Bool.not_eq_true'] at h1' h2'
  have e := (listOrd itemOrd).total _ _ h2' h1'
  obtain ⟨a, m, c, k, e1, rfl⟩ := isRow_is ix
  obtain ⟨a', m', c', k', e1', rfl⟩ := isRow_is iy
  simp only [py, pyA, PySem.W.keyToks, PySem.W.keyToksAll, List.cons_append, List.nil_append, List.cons.injEq, Sum.inl.injEq, Sum.inr.injEq, true_and, and_true] at e
  obtain ⟨ea, rfl, ec, rfl, rfl⟩ := e
  rw [PySem.W.str_of_cps ea, PySem.W.str_of_cps ec]
end
end K28
end

section
set_option Elab.async false
set_option linter.all false
set_option maxRecDepth 100000
set_option maxHeartbeats 4000000
set_option pp.maxSteps 700
set_option hygiene false
open PySem PyProof.Rows L2 DL
set_option pp.maxSteps 100
namespace K28
open PySem PySem.Spec PyProof.Rows L2 DL TL DN
abbrev sLaw : Stmt := top 38
abbrev NL : List Str := ["script", "pen", "lap", "names", "plan", "turn", "rows", "row", "text", "bent", "step", "wrong", "found"]
theorem scLaw : FnScope NL ["script"] (defScope sLaw) := ⟨rfl, rfl, rfl, by decide +kernel, rfl, by decide +kernel, by decide +kernel⟩
structure Gs (P : Program) (w : World) (K : PySem.W.Frag) (mg : Str → Option Value) (base : Heap) (C CB CT : Addr) (T : Tabs3) : Prop where
  gD : GFn P w K mg base 1 "_law_draw" [] spDraw
  gK : GFn P w K mg base 2 "_law_pick" [] spPick
  gS : GFn P w K mg base 2 "_law_shuffled" [] spShuf
  gN : GFn P w K mg base 3 "_law_names" [] spNames
  gR : GFn P w K mg base 1 "_law_plan_rows" [] spPlanRows
  gL : GFn P w K mg base 1 "_law_line" [] spLine
  gP : GFn P w K mg base 10 "plan_of" [] (spPlanOf C CT T)
  gM : GMk P w K mg base 5 "Plan" C [] (spInit C CB)
  gT : GFn P w K mg base 1 "plan_text" [] (spPlanText C)
  gB : GFn P w K mg base 3 "_law_spoilt" [] spSpoilt
  gU : GFn P w K mg base 3 "_law_due" [] spDue
  gW : GFn P w K mg base 11 "_law_why" [] (spWhy C CT T)
  eq : GMe P w K mg base 1 C "__eq__" [] (spEq C)
  ne : PySem.W.findIn K (.ref C) "__ne__" = some (some (.builtin "object.__ne__"))
  ob : PySem.W.mroIn K C (.type "object") = some true
  cl : Cls K C
  nR : NoAttr K C "rows"
abbrev MM (p : Addr) (c : Cell) (T : Tabs3) (rest : Mem) : Mem := (p, c) :: (T.need, .tab qNeed) :: (T.name, .tab qName) :: (T.num, .tab qNum) :: rest
theorem mm_at {p t : Addr} {c x : Cell} {T : Tabs3} {rest : Mem} : (MM p c T (rest ++ [(t, x)]))[rest.length + 4]? = some (t, x) := by simp [MM]
theorem mm_set {p t : Addr} {c x y : Cell} {T : Tabs3} {rest : Mem} : (MM p c T (rest ++ [(t, x)])).set (rest.length + 4) (t, y) = MM p c T (rest ++ [(t, y)]) := by simp [MM]
section
variable {p : Addr} {c : Cell} {T : Tabs3} {rest : Mem} {Φ : D → Mem → Prop} {Ψ : XP} {C CT : Addr} {z : Str}
theorem mm_back {M' : Mem} (e : M' = T.mem) : setMs (MM p c T rest) [1, 2, 3] M' = MM p c T rest := by
  subst e
  rfl
theorem use_planOf (hz : z.length ≤ 80000) {kvs : List (D × D)} (hp : parse (rowsZ z) [] 0 = .ok kvs) (h : MetOk kvs → Φ (.ins C (planIns C (kvs.map (·.2)))) (MM p c T rest)) : Use (spPlanOf C CT T) [.str z] (MM p c T rest) Φ Ψ := by
  refine .many [1, 2, 3] T.mem rfl (by decide) ⟨_, "str", rfl, rfl, rfl, fun q => absurd rfl (q z), fun y e => ?_⟩
  cases e
  refine ⟨hz, fun kvs' h1 hm _ => ?_, fun l n h1 => ?_⟩
  · rw [hp] at h1
    cases h1
    exact h hm
  · rw [hp] at h1
    cases h1
theorem use_whyO (hz : z.length ≤ 80000) {kvs : List (D × D)} (hp : parse (rowsZ z) [] 0 = .ok kvs) (h : MetOk kvs → Φ .non (MM p c T rest)) : Use (spWhy C CT T) [.str z] (MM p c T rest) Φ Ψ := by
  refine .many [1, 2, 3] T.mem rfl (by decide) ⟨_, "str", rfl, rfl, rfl, fun q => absurd rfl (q z), fun y e => ?_⟩
  cases e
  refine ⟨hz, fun kvs' h1 hm _ => ?_, fun l n h1 => ?_⟩
  · rw [hp] at h1
    cases h1
    exact h hm
  · rw [hp] at h1
    cases h1
theorem use_whyE (hz : z.length ≤ 80000) {l n : Nat} (hp : parse (rowsZ z) [] 0 = .error (l, n)) (h : Φ (.tup [.int (l : Nat), .int (n : Nat)]) (MM p c T rest)) : Use (spWhy C CT T) [.str z] (MM p c T rest) Φ Ψ := by
  refine .many [1, 2, 3] T.mem rfl (by decide) ⟨_, "str", rfl, rfl, rfl, fun q => absurd rfl (q z), fun y e => ?_⟩
  cases e
  refine ⟨hz, fun kvs' h1 hm => ?_, fun l' n' h1 _ => ?_⟩
  · rw [hp] at h1
    cases h1
  · rw [hp] at h1
    cases h1
    exact h
theorem use_whyN {d : D} {n : String} (hn : tyN d = some n) (hd : ∀ z, d ≠ .str z) (h : Φ (.tup [.int 0, .int 0]) (MM p c T rest)) : Use (spWhy C CT T) [d] (MM p c T rest) Φ Ψ :=
  .many [1, 2, 3] T.mem rfl (by decide) ⟨_, n, rfl, rfl, hn, fun _ _ => h, fun y e => absurd e (hd y)⟩
end
theorem parse_len : ∀ (rows : List (List Str)) (kvs : List (D × D)) (i : Nat) (kvs' : List (D × D)), parse rows kvs i = .ok kvs' → kvs'.length ≤ kvs.length + rows.length
  | [], kvs, i, kvs', h => by
    cases h
    exact Nat.le_refl _
  | ws :: r, kvs, i, kvs', h => by
    unfold parse at h
    split at h
    · have := parse_len r _ _ _ h
      have := ptD_length kvs (key2 (rowD ws)) (rowD ws)
      rw [List.length_cons]
      omega
    · cases h
theorem num_le {i : Int} (h0 : 0 ≤ i) (h1 : i ≤ MOST) : num (.int i) = true := by
  show (decide ((0 : Int) ≤ i) && decide (i ≤ MOST)) = true
  rw [decide_eq_true h0, decide_eq_true h1]
  rfl
theorem fit_pair (a b : Int) : fit (.tup [.int a, .int b]) = true := by rfl
theorem eqd_pair (a b : Int) : eqd (.tup [.int a, .int b]) (.tup [.int a, .int b]) = true := by
  simp only [eqd, py, pyA, PyData.eqv, PyData.eqvAll, Bool.and_eq_true, beq_iff_eq, and_true, and_self]
def forBody : Stmt → List Stmt
  | .For _ _ b _ _ => b
  | _ => []
abbrev lapB : List Stmt := forBody ((defBody sLaw).getD 1 (.Pass ⟨0, 0, 0, 0⟩))
abbrev turnB : List Stmt := forBody (lapB.getD 5 (.Pass ⟨0, 0, 0, 0⟩))
abbrev SL (p : Addr) (g2 g3 g4 g5 g6 g7 g8 g9 g10 g11 g12 : Option D) : Sl := [none, some (.raw (.ref p)), g2, g3, g4, g5, g6, g7, g8, g9, g10, g11, g12]
section
variable {P : Program} {w : World} {K : PySem.W.Frag} {mg : Str → Option Value} {base : Heap} {f : Addr} {fd : FuncData} {C CB CT : Addr} {T : Tabs3}
/-- one text bent and asked -/
theorem law_turn {cdv : Value} {A : Around} {outer : List Env} {s : Shared} {H : Hp} {E : XK} {N0 : Nat} (b : Bn mg) (G : Gs P w K mg base C CB CT T) (hr : Room 13 (A.deeper (envOfC "law" (defScope sLaw) s.heap.objs.size f cdv))) {p : Addr} {g2 g3 g4 g5 g6 g7 g9 g10 g11 g12 : Option D} {c : Cell} {rest : Mem} {tx : Str} {Ps : Post} (hc : PenIs (N0 + 40) c) (htx : tx.length ≤ 2010)
    (k : ∀ (g9 g10 g11 g12 : Option D) (c : Cell), PenIs N0 c → Ps.nx (SL p g2 g3 g4 g5 g6 g7 (some (.str tx)) g9 g10 g11 g12) (MM p c T rest)) :
    JSs (cxOf (L2.CX P w) P w K mg base NL "law" (defScope sLaw) f cdv A outer s H E) (SL p g2 g3 g4 g5 g6 g7 (some (.str tx)) g9 g10 g11 g12) (MM p c T rest) turnB Ps := by
  have hu := hr.units
  have nd := scLaw.nd
  refine jss_cons (js_set (hN := nd) 9 (je_var 8 rfl ?_))
  show JSs _ (SL p g2 g3 g4 g5 g6 g7 (some (.str tx)) (some (.str tx)) g10 g11 g12) (MM p c T rest) _ _
  refine jss_cut (fun Γ M => ∃ (z : Str) (g10 : Option D) (c : Cell), Γ = SL p g2 g3 g4 g5 g6 g7 (some (.str tx)) (some (.str z)) g10 g11 g12 ∧ M = MM p c T rest ∧ z.length ≤ 20000 ∧ PenIs N0 c) (js_for (passes_of rfl) (ji_range1 b.range (je_op (je_int (je_call G.gD (hr.mono (by decide)) (ja_cons (je_var 1 rfl (ja_cons (je_int (ja_nil ?_)))))))))) ?_
  · refine use_draw (n := N0 + 39) 0 rfl (hc.less (by omega)) (by decide) (by decide) fun many c m0 m1 hc => opd_addI ⟨_, rfl, by omega, by omega, ?_⟩
    refine ⟨fun j Γ M => ∃ (z : Str) (g10 : Option D) (c : Cell), Γ = SL p g2 g3 g4 g5 g6 g7 (some (.str tx)) (some (.str z)) g10 g11 g12 ∧ M = MM p c T rest ∧ z.length + 100 ≤ 2110 * 2 ^ j ∧ PenIs (N0 + 39 - 10 * j) c, ⟨tx, g10, c, rfl, rfl, by omega, hc⟩, ?_, ?_⟩
    · rintro j x Γ M hj ⟨z, g10, c, rfl, rfl, hz, hc⟩
      have hj := (List.getElem?_eq_some_iff.mp hj).1
      rw [rngD_length] at hj
      have hj : j < 3 := by omega
      have hz' : z.length ≤ 30000 := by
        have : 2 ^ j ≤ 2 ^ 2 := Nat.pow_le_pow_right (n := 2) (by decide) (by omega)
        omega
      refine jg_name 10 ?_ nd
      generalize some x = g10
      show JSs _ (SL p g2 g3 g4 g5 g6 g7 (some (.str tx)) (some (.str z)) g10 g11 g12) (MM p c T rest) _ _
      refine jss_one (js_set (hN := nd) 9 (je_call G.gB (hr.mono (by decide)) (ja_cons (je_var 1 rfl (ja_cons (je_var 9 rfl (ja_nil (.one 0 p c rfl ⟨p, z, N0 + 39 - 10 * j - 10, c, rfl, rfl, hc.less (by omega), hz', fun z' c' hl hc' c'' e => ?_⟩))))))))
      cases e
      refine ⟨z', g10, c', rfl, rfl, ?_, hc'.less (by omega)⟩
      rw [Nat.pow_succ]
      omega
    · rintro Γ M ⟨z, g10, c, rfl, rfl, hz, hc⟩
      rw [rngD_length] at hz hc
      refine ⟨z, g10, c, rfl, rfl, ?_, hc.less (by omega)⟩
      have : 2 ^ (1 + many).toNat ≤ 2 ^ 3 := Nat.pow_le_pow_right (n := 2) (by decide) (show (1 + many).toNat ≤ 3 by omega)
      omega
  clear hc c g10
  rintro Γ M ⟨z, g10, c, rfl, rfl, hz, hc⟩
  have hz8 : z.length ≤ 80000 := by omega
  cases hp : parse (rowsZ z) [] 0 with
  | error e =>
    obtain ⟨l, n⟩ := e
    refine jss_cons (js_asg (je_call G.gU (hr.mono (by decide)) (ja_cons (je_var 9 rfl (ja_nil (.none ⟨z, rfl, rfl, hz8, fun kvs' h1 hm => ?_, fun l' n' h1 => ?_⟩))))))
    · rw [hp] at h1
      cases h1
    rw [hp] at h1
    cases h1
    refine jg_tup (jgs_cons (jg_name 11 (jgs_cons (jg_name 12 (jgs_nil ?_) nd)) nd)) rfl
    show JSs _ (SL p g2 g3 g4 g5 g6 g7 (some (.str tx)) (some (.str z)) g10 (some (.tup [.int (l : Nat), .int (n : Nat)])) (some (.lst []))) (MM p c T rest) _ _
    refine jss_one (js_if (jt_w (jw_or (jt_cmp (je_call G.gW (hr.mono (by decide)) (ja_cons (je_var 9 rfl (ja_nil (use_whyE hz8 hp ?_)))))))))
    refine je_var 11 rfl (opd_neD hu (fit_pair _ _) (fit_pair _ _) ⟨_, rfl, ite_f (by rw [eqd_pair]; rfl) ?_⟩)
    refine jw_or1 (jt_w (jw_and (jt_cmp (je_var 11 rfl (je_non (opd_isN (fun z h => by cases h) ⟨_, rfl, ite_f rfl ?_⟩))))))
    exact ite_f rfl (jss_nil (k _ _ _ _ c hc))
  | ok kvs =>
    have hkl : kvs.length ≤ 20001 := by
      have h1 := parse_len _ _ _ _ hp
      have h2 := rowsZ_len z
      simp only [List.length_nil] at h1
      omega
    refine jss_cons (js_asg (je_call G.gU (hr.mono (by decide)) (ja_cons (je_var 9 rfl (ja_nil (.none ⟨z, rfl, rfl, hz8, fun kvs' h1 hm => ?_, fun l' n' h1 => ?_⟩))))))
    rotate_left
    · rw [hp] at h1
      cases h1
    rw [hp] at h1
    cases h1
    have hrow : ∀ x ∈ kvs.map (·.2), isRow x = true := fun x hx => by
      obtain ⟨kv, hkv, rfl⟩ := List.mem_map.mp hx
      exact (hm.2 kv hkv).1
    have hro : rowsOk (kvs.map (·.2)) := ⟨by rw [List.length_map]; omega, hrow⟩
    obtain ⟨q1, q2, q3, q4⟩ := rows_sort hrow
    refine jg_tup (jgs_cons (jg_name 11 (jgs_cons (jg_name 12 (jgs_nil ?_) nd)) nd)) rfl
    show JSs _ (SL p g2 g3 g4 g5 g6 g7 (some (.str tx)) (some (.str z)) g10 (some .non) (some (.lst (kvs.map (·.2))))) (MM p c T rest) _ _
    refine jss_one (js_if (jt_w (jw_or (jt_cmp (je_call G.gW (hr.mono (by decide)) (ja_cons (je_var 9 rfl (ja_nil (use_whyO hz8 hp fun _ => ?_)))))))))
    refine je_var 11 rfl (opd_neD hu rfl rfl ⟨_, rfl, ite_f rfl ?_⟩)
    refine jw_or1 (jt_w (jw_and (jt_cmp (je_var 11 rfl (je_non (opd_isN (fun z h => by cases h) ⟨_, rfl, ite_t rfl ?_⟩))))))
    refine jw_and1 (jt_cmp (je_fld (je_call G.gP (hr.mono (by decide)) (ja_cons (je_var 9 rfl (ja_nil (use_planOf hz8 hp fun _ => ⟨C, _, _, rfl, G.cl, G.nR, planIns_rows C _, ?_⟩)))))))
    refine je_callT b.tuple boot_tuple (ja_cons (je_callB b.sorted boot_sorted (ja_cons (je_var 12 rfl (ja_nil (cd_sorted hu q1 q2 q3 q4 (ja_nil (cd_tuple ?_))))))))
    exact opd_neD hu (rows_fit hro) (rows_fit hro) ⟨_, rfl, ite_f (by rw [eqd_selfs (sort_rows hrow)]; rfl) (jss_nil (k _ _ _ _ c hc))⟩
end
end K28
end

section
set_option Elab.async false
set_option linter.all false
set_option maxRecDepth 100000
set_option maxHeartbeats 4000000
set_option pp.maxSteps 700
set_option hygiene false
open PySem PyProof.Rows L2 DL
set_option pp.maxSteps 100
namespace K28
open PySem PySem.Spec PyProof.Rows L2 DL TL DN
theorem okRows_of {rows : List D} (hl : rows.length ≤ 90000) (h : ∀ r ∈ rows, isRow r = true) : ∀ d, d = .tup rows ∨ d = .lst rows → okRows d := fun d hd => by
  refine ⟨by rcases hd with rfl | rfl <;> exact ⟨_, rfl⟩, fun xs e => ?_⟩
  have ex : xs = rows := by
    rcases hd with rfl | rfl <;> rcases e with e | e <;> cases e <;> rfl
  subst ex
  exact ⟨hl, fun x hx => okr_row (h x hx)⟩
abbrev lapTl : List Stmt := lapB.drop 3
section
variable {P : Program} {w : World} {K : PySem.W.Frag} {mg : Str → Option Value} {base : Heap} {f : Addr} {fd : FuncData} {C CB CT : Addr} {T : Tabs3}
/-- the rows' text, what plan_of and plan_text tell of it; then six turns -/
theorem law_text {cdv : Value} {A : Around} {outer : List Env} {s : Shared} {H : Hp} {E : XK} {N0 : Nat} (b : Bn mg) (G : Gs P w K mg base C CB CT T) (hr : Room 13 (A.deeper (envOfC "law" (defScope sLaw) s.heap.objs.size f cdv))) {p : Addr} {g2 g3 g4 g5 g7 g8 g9 g10 g11 g12 : Option D} {c : Cell} {rest : Mem} {rows : List D} {Ps : Post} (hc : PenIs (N0 + 240) c) (hrow : ∀ x ∈ rows, isRow x = true) (hnd : (rows.map key2).Nodup) (hl : rows.length ≤ 10)
    (k : ∀ (g5 g7 g8 g9 g10 g11 g12 : Option D) (c : Cell), PenIs N0 c → Ps.nx (SL p g2 g3 g4 g5 (some (.lst rows)) g7 g8 g9 g10 g11 g12) (MM p c T rest)) :
    JSs (cxOf (L2.CX P w) P w K mg base NL "law" (defScope sLaw) f cdv A outer s H E) (SL p g2 g3 g4 g5 (some (.lst rows)) g7 g8 g9 g10 g11 g12) (MM p c T rest) lapTl Ps := by
  have hu := hr.units
  have nd := scLaw.nd
  have hpt := parse_text hrow hnd
  obtain ⟨hmt, hmr⟩ := met_text hrow hnd
  have htl := text_len hrow hl
  have hroom : ∀ ys : List D, (∀ x ∈ ys, isRow x = true) → ys.length ≤ 10 → (((ys.map lineD).map (·.length)).sum + (ys.map lineD).length * ("\n" : Str).length) ≤ 1000000 := fun ys h1 h2 => by
    have h3 := sum_le200 (xs := ys) fun x hx => row_line (h1 x hx)
    have h4 : ("\n" : Str).length = 1 := rfl
    rw [List.length_map, h4]
    omega
  have hro : rowsOk rows := ⟨by omega, hrow⟩
  have noEq : (planIns C rows).lookup ("__eq__" : Str) = none := planIns_no C rows _ (by decide) (by decide)
  have hok : planOf (.lst rows) = some rows := by
    rw [planOf_of (.inr rfl), plan_ok hrow hnd]
    rfl
  obtain ⟨q1, q2, q3, q4⟩ := rows_sort hrow
  have hsrow : ∀ x ∈ sortD rows, isRow x = true := sort_rows hrow
  have hsl : (sortD rows).length = rows.length := sort_length
  have hmap : ∀ ys : List D, ys.map (fun x => D.str (lineD x)) = (ys.map lineD).map .str := fun ys => by rw [List.map_map]; rfl
  refine jss_cons (js_set (hN := nd) 8 (je_m PySem.F.plainAttrs_str PySem.F.slot_str_join PySem.F.type_str_join (je_str ⟨.inl ⟨rfl, _, rfl⟩, ja_cons ?_⟩)))
  refine je_lc (own := [("row", 7)]) nd blk_ok (ji_list (je_var 6 rfl ⟨_, rfl, lc_map (fun x => .str (lineD x)) (by omega) (ja_nil (md_joinL2 (hmap rows) (hroom rows hrow hl) ?_)) fun x hx => ?_⟩))
  rotate_left
  · refine ⟨[7], [_], by decide, fun s H C cl fp => jc_name 7 nd, fun s H C cl fp => ?_⟩
    show JE _ (SL p g2 g3 g4 g5 (some (.lst rows)) (some x) g8 g9 g10 g11 g12) _ _ _ _
    exact je_call G.gL (hr.mono (by decide)) (ja_cons (je_var 7 rfl (ja_nil (.none ⟨x, rfl, rfl, hrow x hx, rfl, rfl⟩))))
  generalize htx : Txt.join "\n" (rows.map lineD) = tx at hpt htl ⊢
  show JSs _ (SL p g2 g3 g4 g5 (some (.lst rows)) g7 (some (.str tx)) g9 g10 g11 g12) (MM p c T rest) _ _
  refine jss_cons (js_if (jt_w (jw_or (jt_cmp (je_call G.gP (hr.mono (by decide)) (ja_cons (je_var 8 rfl (ja_nil (use_planOf (by omega) hpt fun _ => ?_)))))))))
  rw [hmr]
  refine je_make G.gM (hr.mono (by decide)) (ja_cons (je_var 6 rfl (ja_nil fun t => ⟨t, .lst rows, rfl, rfl, okRows_of (by omega) hrow _ (.inr rfl), fun xs hx => ⟨rfl, _, rfl, ?_⟩, fun hn => by rw [hok] at hn; cases hn⟩)))
  rw [hok] at hx
  cases hx
  refine opd_ownNe G.eq G.ne G.ob (hr.mono (by decide)) (.inl ⟨_, rfl, noEq⟩) ⟨_, rfl⟩ ⟨_, _, rfl, rfl, hro, .inl ⟨_, rfl, hro, _, rfl, _, rfl, ite_f ?_ ?_⟩⟩
  · rw [eqd_selfs hsrow]
    rfl
  refine jw_or1 (jt_cmp (je_call G.gT (hr.mono (by decide)) (ja_cons (je_call G.gP (hr.mono (by decide)) (ja_cons (je_var 8 rfl (ja_nil (use_planOf (by omega) hpt fun _ => ?_))))))))
  rw [hmr]
  refine ja_nil (.none ⟨rows, rfl, rfl, by omega, hrow, ?_⟩)
  refine je_m PySem.F.plainAttrs_str PySem.F.slot_str_join PySem.F.type_str_join (je_str ⟨.inl ⟨rfl, _, rfl⟩, ja_cons ?_⟩)
  refine je_lc (own := [("row", 7)]) nd blk_ok (ji_list (je_callB b.sorted boot_sorted (ja_cons (je_var 6 rfl (ja_nil (cd_sorted hu q1 q2 q3 q4 ⟨_, rfl, lc_map (fun x => .str (lineD x)) (by omega) (ja_nil (md_joinL2 (hmap _) (hroom _ hsrow (by omega)) (opd_neS ⟨_, rfl, ite_f (by rw [decide_eq_true rfl]; rfl) (jss_nil ?_)⟩))) fun x hx => ?_⟩))))))
  rotate_left
  · refine ⟨[7], [_], by decide, fun s H C cl fp => jc_name 7 nd, fun s H C cl fp => ?_⟩
    show JE _ (SL p g2 g3 g4 g5 (some (.lst rows)) (some x) (some (.str tx)) g9 g10 g11 g12) _ _ _ _
    exact je_call G.gL (hr.mono (by decide)) (ja_cons (je_var 7 rfl (ja_nil (.none ⟨x, rfl, rfl, hsrow x hx, rfl, rfl⟩))))
  refine jss_one (js_for (passes_of rfl) (ji_range1 b.range (je_int ⟨_, rfl, by decide, by decide, ?_⟩)))
  refine ⟨fun j Γ M => ∃ (g5 g9 g10 g11 g12 : Option D) (c : Cell), Γ = SL p g2 g3 g4 g5 (some (.lst rows)) g7 (some (.str tx)) g9 g10 g11 g12 ∧ M = MM p c T rest ∧ PenIs (N0 + 40 * (6 - j)) c, ⟨_, _, _, _, _, c, rfl, rfl, hc.less (by omega)⟩, ?_, ?_⟩
  · rintro j x Γ M hj ⟨g5, g9, g10, g11, g12, c, rfl, rfl, hc⟩
    have hj := (List.getElem?_eq_some_iff.mp hj).1
    rw [rngD_length] at hj
    have hj : j < 6 := hj
    refine jg_name 5 ?_ nd
    generalize some x = g5
    exact law_turn (N0 := N0 + 40 * (6 - (j + 1))) b G hr (hc.less (by omega)) htl fun g9 g10 g11 g12 c hc => ⟨_, _, _, _, _, c, rfl, rfl, hc⟩
  · rintro Γ M ⟨g5, g9, g10, g11, g12, c, rfl, rfl, hc⟩
    rw [rngD_length] at hc
    exact k _ _ _ _ _ _ _ c (hc.less (by show N0 ≤ N0 + 40 * (6 - 6); omega))
/-- one lap -/
theorem law_lap {cdv : Value} {A : Around} {outer : List Env} {s : Shared} {H : Hp} {E : XK} {N0 : Nat} (b : Bn mg) (G : Gs P w K mg base C CB CT T) (hr : Room 13 (A.deeper (envOfC "law" (defScope sLaw) s.heap.objs.size f cdv))) {p : Addr} {g2 g3 g4 g5 g6 g7 g8 g9 g10 g11 g12 : Option D} {c : Cell} {rest : Mem} {Ps : Post} (hc : PenIs (N0 + 400) c)
    (k : ∀ (g3 g4 g5 g6 g7 g8 g9 g10 g11 g12 : Option D) (c : Cell) (rest : Mem), PenIs N0 c → Ps.nx (SL p g2 g3 g4 g5 g6 g7 g8 g9 g10 g11 g12) (MM p c T rest)) :
    JSs (cxOf (L2.CX P w) P w K mg base NL "law" (defScope sLaw) f cdv A outer s H E) (SL p g2 g3 g4 g5 g6 g7 g8 g9 g10 g11 g12) (MM p c T rest) lapB Ps := by
  have hu := hr.units
  have nd := scLaw.nd
  refine jss_cons (js_par 3 4 (ja_cons ?_) nd)
  refine je_call G.gN (hr.mono (by decide)) (ja_cons (je_var 1 rfl (ja_cons (je_int (ja_nil ?_)))))
  refine use_names (m := 4) (n := N0 + 350) 0 rfl (hc.less (by omega)) (by decide) fun names c zs hz1 hz2 hz3 hc => ?_
  have hnm : ∀ y ∈ names, isName y = true := fun y hy => by
    obtain ⟨z, hz, rfl⟩ := List.mem_map.mp (hz3.mem_iff.mp hy)
    obtain ⟨j, hj⟩ := List.getElem?_of_mem hz
    have := (List.getElem?_eq_some_iff.mp hj).1
    exact name_of (by omega) (hz2 j z hj)
  have hnl : names.length = 4 := by rw [hz3.length_eq, List.length_map, hz1]
  have hn0 : names ≠ [] := fun e => by rw [e] at hnl; cases hnl
  refine ja_cons (je_dTC fun t => ja_nil ⟨_, _, rfl, ?_⟩)
  show JSs _ (SL p g2 (some (.lst names)) (some (.raw (.ref t))) g5 g6 g7 g8 g9 g10 g11 g12) (MM p c T (rest ++ [(t, .dT [])])) _ _
  refine jss_cut (fun Γ M => ∃ (g5 : Option D) (c : Cell) (kvs : List (D × D)), Γ = SL p g2 (some (.lst names)) (some (.raw (.ref t))) g5 g6 g7 g8 g9 g10 g11 g12 ∧ M = MM p c T (rest ++ [(t, .dT kvs)]) ∧ PlanKv kvs ∧ kvs.length ≤ 10 ∧ PenIs (N0 + 260) c) (js_for (passes_of rfl) (ji_range1 b.range ?_)) ?_
  · refine je_call G.gD (hr.mono (by decide)) (ja_cons (je_var 1 rfl (ja_cons (je_int (ja_nil ?_)))))
    refine use_draw (n := N0 + 345) 0 rfl (hc.less (by omega)) (by decide) (by decide) fun many c m0 m1 hc => ⟨_, rfl, by omega, by omega, ?_⟩
    refine ⟨fun j Γ M => ∃ (g5 : Option D) (c : Cell) (kvs : List (D × D)), Γ = SL p g2 (some (.lst names)) (some (.raw (.ref t))) g5 g6 g7 g8 g9 g10 g11 g12 ∧ M = MM p c T (rest ++ [(t, .dT kvs)]) ∧ PlanKv kvs ∧ kvs.length ≤ j ∧ PenIs (N0 + 345 - 6 * j) c, ⟨g5, c, [], rfl, rfl, plan_nil, Nat.le_refl _, hc⟩, ?_, ?_⟩
    · rintro j x Γ M hj ⟨g5, c, kvs, rfl, rfl, hp, hl, hc⟩
      have hj := (List.getElem?_eq_some_iff.mp hj).1
      rw [rngD_length] at hj
      have hj : j < 10 := by omega
      refine jg_name 5 ?_ nd
      generalize some x = g5
      show JSs _ (SL p g2 (some (.lst names)) (some (.raw (.ref t))) g5 g6 g7 g8 g9 g10 g11 g12) (MM p c T (rest ++ [(t, .dT kvs)])) _ _
      refine jss_one (js_dputT (rest.length + 4) (u1 hr) (je_tup (ja_cons ?_)))
      refine je_call G.gK (hr.mono (by decide)) (ja_cons (je_var 1 rfl (ja_cons (je_var 3 rfl (ja_nil ?_)))))
      refine use_pick (n := N0 + 345 - 6 * j - 1) 0 rfl (hc.less (by omega)) hn0 (by omega) fun c' c hc' hc => ?_
      refine ja_cons (je_call G.gD (hr.mono (by decide)) (ja_cons (je_var 1 rfl (ja_cons (je_int (ja_nil ?_))))))
      refine use_draw (n := N0 + 345 - 6 * j - 2) 0 rfl (hc.less (by omega)) (by decide) (by decide) fun i' c i0 i1 hc => ?_
      refine ja_cons (je_call G.gD (hr.mono (by decide)) (ja_cons (je_var 1 rfl (ja_cons (je_int (ja_nil ?_))))))
      refine use_draw (n := N0 + 345 - 6 * j - 3) 0 rfl (hc.less (by omega)) (by decide) (by decide) fun e' c e0 e1 hc => ?_
      refine ja_nil ⟨by show 3 ≤ 1000000; decide, je_var 4 rfl (je_tup (ja_cons ?_))⟩
      refine je_call G.gK (hr.mono (by decide)) (ja_cons (je_var 1 rfl (ja_cons (je_var 3 rfl (ja_nil ?_)))))
      refine use_pick (n := N0 + 345 - 6 * j - 4) 0 rfl (hc.less (by omega)) hn0 (by omega) fun a c ha hc => ?_
      refine ja_cons (je_call G.gK (hr.mono (by decide)) (ja_cons (je_var 1 rfl (ja_cons (je_lst ?_)))))
      refine ja_cons (je_int (ja_cons (je_int (ja_cons (je_int (ja_cons (je_op (je_int (je_int (opd_powI ⟨by decide, by decide, by decide⟩ ?_))))))))))
      refine ja_nil ⟨by show 4 ≤ 1000000; decide, ja_nil (use_pick (n := N0 + 345 - 6 * j - 5) 0 rfl (hc.less (by omega)) (List.cons_ne_nil _ _) (by show 4 ≤ 1000000; decide) fun m c hm hc => ?_)⟩
      obtain ⟨a, rfl⟩ := isName_str (hnm a ha)
      obtain ⟨c', rfl⟩ := isName_str (hnm c' hc')
      have hmn : ∃ i, m = .int i ∧ num (.int i) = true := by
        simp only [List.mem_cons, List.not_mem_nil, or_false] at hm
        rcases hm with rfl | rfl | rfl | rfl
        · exact ⟨_, rfl, num_le (by decide) (by decide)⟩
        · exact ⟨_, rfl, num_le (by decide) (by decide)⟩
        · exact ⟨_, rfl, num_le (by decide) (by decide)⟩
        · exact ⟨_, rfl, num_le (by decide) (by decide)⟩
      obtain ⟨m, rfl, hmn⟩ := hmn
      have hbig : (100 : Int) ≤ MOST := by decide
      have hin : num (.int i') = true := num_le i0 (by omega)
      have he : num (.int e') = true := num_le e0 (by omega)
      have hrow : isRow (.tup [.str a, .int m, .str c', .int i', .int e']) = true := by
        show (isName (.str a) && isName (.str c') && (num (.int m) && (num (.int i') && num (.int e')))) = true
        rw [hnm _ ha, hnm _ hc', hmn, hin, he]
        rfl
      refine ja_nil ⟨by show 2 ≤ 1000000; decide, t, kvs, [.inr a, .inl m], rfl, mm_at, rfl, List.cons_ne_nil _ _, by omega, ?_⟩
      refine ⟨g5, c, _, rfl, mm_set, plan_put hp (by omega) hrow (by omega), ?_, hc.less (by omega)⟩
      have := ptD_length kvs (.tup [.str a, .int m]) (.tup [.str c', .int i', .int e'])
      omega
    · rintro Γ M ⟨g5, c, kvs, rfl, rfl, hp, hl, hc⟩
      rw [rngD_length] at hl hc
      exact ⟨g5, c, kvs, rfl, rfl, hp, by omega, hc.less (by omega)⟩
  clear hc c g5
  rintro Γ M ⟨g5, c, kvs, rfl, rfl, hp, hkl, hc⟩
  refine jss_cons (js_set (hN := nd) 6 ?_)
  refine je_call G.gS (hr.mono (by decide)) (ja_cons (je_var 1 rfl (ja_cons ?_)))
  refine je_call G.gR (hr.mono (by decide)) (ja_cons (je_var 4 rfl (ja_nil ?_)))
  refine .one (rest.length + 4) t (.dT kvs) mm_at ⟨t, kvs, rfl, rfl, hp, fun rows0 hr0 c' ec => ?_⟩
  cases ec
  rw [mm_set]
  have hlen0 : rows0.length ≤ 10 := by rw [hr0.length_eq, List.length_map]; exact hkl
  refine ja_nil (use_shuf (n := N0 + 250) 0 rfl (hc.less (by omega)) (by omega) fun rows c hrp hc => ?_)
  have hR : RowsOf kvs rows := ⟨hp, hrp.trans hr0⟩
  exact law_text (N0 := N0) b G hr (hc.less (by omega)) hR.isRow hR.nodup (by rw [hrp.length_eq]; exact hlen0) fun g5 g7 g8 g9 g10 g11 g12 c hc => k _ _ _ _ _ _ _ _ _ _ c _ hc
end
end K28
end

section
set_option Elab.async false
set_option linter.all false
set_option maxRecDepth 100000
set_option maxHeartbeats 4000000
set_option pp.maxSteps 700
set_option hygiene false
open PySem PyProof.Rows L2 DL
set_option pp.maxSteps 100
namespace K28
open PySem PySem.Spec PyProof.Rows L2 DL TL DN
def spLaw (K : PySem.W.Frag) (T : Tabs3) : Sp := fun vs H Q _ => ∃ (a : Addr) (ns : List Int), vs = [.ref a] ∧ SqL K H a (ns.map V.int) ∧ (H T.need = some (.tbl #[]) ∧ H T.name = some (.tbl #[]) ∧ H T.num = some (.tbl #[])) ∧ ∀ H' : Hp, Q (.bl true) H'
theorem ints_is {K : PySem.W.Frag} {H : Hp} : ∀ ns : List Int, IsA K H (ns.map V.int) (ns.map D.int)
  | [] => .nil
  | n :: ns => .cons (.int n) (ints_is ns)
section
variable {P : Program} {w : World} {K : PySem.W.Frag} {mg : Str → Option Value} {base : Heap} {f fP : Addr} {fd fdP : FuncData} {C CB CT : Addr} {T : Tabs3}
theorem law_rest {cdv : Value} {A : Around} {outer : List Env} {s : Shared} {H : Hp} {E : XK} (b : Bn mg) (G : Gs P w K mg base C CB CT T) (hr : Room 13 (A.deeper (envOfC "law" (defScope sLaw) s.heap.objs.size f cdv))) {p : Addr} {c : Cell} (hc : PenIs 2000 c) :
    JSs (cxOf (L2.CX P w) P w K mg base NL "law" (defScope sLaw) f cdv A outer s H E) (SL p none none none none none none none none none none none) (MM p c T []) (defBody sLaw).tail { nx := fun _ _ => False, rt := fun d _ => d = .bl true, ex := fun _ _ _ => False } := by
  have hu := hr.units
  have nd := scLaw.nd
  refine jss_cons (js_for (passes_of rfl) (ji_range1 b.range (je_int ⟨_, rfl, by decide, by decide, ?_⟩)))
  refine ⟨fun j Γ M => ∃ (g2 g3 g4 g5 g6 g7 g8 g9 g10 g11 g12 : Option D) (c : Cell) (rest : Mem), Γ = SL p g2 g3 g4 g5 g6 g7 g8 g9 g10 g11 g12 ∧ M = MM p c T rest ∧ PenIs (10 + 400 * (3 - j)) c, ⟨_, _, _, _, _, _, _, _, _, _, _, c, [], rfl, rfl, hc.less (by omega)⟩, ?_, ?_⟩
  · rintro j x Γ M hj ⟨g2, g3, g4, g5, g6, g7, g8, g9, g10, g11, g12, c, rest, rfl, rfl, hc⟩
    have hj := (List.getElem?_eq_some_iff.mp hj).1
    rw [rngD_length] at hj
    have hj : j < 3 := hj
    refine jg_name 2 ?_ nd
    generalize some x = g2
    exact law_lap (N0 := 10 + 400 * (3 - (j + 1))) b G hr (hc.less (by omega)) fun g3 g4 g5 g6 g7 g8 g9 g10 g11 g12 c rest hc => ⟨_, _, _, _, _, _, _, _, _, _, _, c, rest, rfl, rfl, hc⟩
  · clear hc c
    rintro Γ M ⟨g2, g3, g4, g5, g6, g7, g8, g9, g10, g11, g12, c, rest, rfl, rfl, hc⟩
    rw [rngD_length] at hc
    have hc : PenIs 10 c := hc
    refine jss_one (js_ret (je_and (je_cmp (je_call G.gW (hr.mono (by decide)) (ja_cons (je_call G.gK (hr.mono (by decide)) (ja_cons (je_var 1 rfl (ja_cons (je_lst ?_))))))))))
    refine ja_cons (je_non (ja_cons (je_int (ja_cons (je_lst (ja_cons (je_str (ja_nil ⟨by show 1 ≤ 1000000; decide, ja_cons (je_bl ?_)⟩))))))))
    refine ja_nil ⟨by show 4 ≤ 1000000; decide, ja_nil (use_pick (n := 9) 0 rfl hc (List.cons_ne_nil _ _) (by show 4 ≤ 1000000; decide) fun x c hx hc => ?_)⟩
    have hxs : (∃ n, tyN x = some n) ∧ ∀ z, x ≠ .str z := by
      simp only [List.mem_cons, List.not_mem_nil, or_false] at hx
      rcases hx with rfl | rfl | rfl | rfl
      all_goals exact ⟨⟨_, rfl⟩, fun z e => by cases e⟩
    obtain ⟨⟨n, hn⟩, hxs⟩ := hxs
    refine ja_nil (use_whyN hn hxs ?_)
    refine je_tup (ja_cons (je_int (ja_cons (je_int (ja_nil ⟨by show 2 ≤ 1000000; decide, opd_eqD hu (fit_pair _ _) (fit_pair _ _) ⟨_, rfl, ite_t (eqd_pair _ _) ?_⟩⟩)))))
    refine je_and (je_cmp (je_call G.gW (hr.mono (by decide)) (ja_cons (je_str (ja_nil (use_whyE (by decide) parse_nl ?_))))))
    refine je_tup (ja_cons (je_int (ja_cons (je_int (ja_nil ⟨by show 2 ≤ 1000000; decide, opd_eqD hu (fit_pair _ _) (fit_pair _ _) ⟨_, rfl, ite_t (eqd_pair _ _) ?_⟩⟩)))))
    have e0 : ∀ r ∈ ([] : List D), isRow r = true := fun r hr => by cases hr
    have hro : rowsOk [] := ⟨by decide, e0⟩
    have noEq : (planIns C []).lookup ("__eq__" : Str) = none := planIns_no C [] _ (by decide) (by decide)
    have hok : planOf (.tup []) = some [] := by
      rw [planOf_of (.inl rfl), plan_ok e0 List.nodup_nil]
      rfl
    refine je_one (je_cmp (je_call G.gP (hr.mono (by decide)) (ja_cons (je_str (ja_nil (use_planOf (by decide) parse_empty fun _ => ?_))))))
    refine je_make G.gM (hr.mono (by decide)) (ja_cons (je_tup (ja_nil ⟨by show 0 ≤ 1000000; decide, ja_nil fun t => ⟨t, .tup [], rfl, rfl, okRows_of (by decide) e0 _ (.inl rfl), fun xs hx => ⟨rfl, _, rfl, ?_⟩, fun hn => by rw [hok] at hn; cases hn⟩⟩)))
    rw [hok] at hx
    cases hx
    refine opd_ownEq G.eq (hr.mono (by decide)) (.inl ⟨_, rfl, noEq⟩) (.inl ⟨_, rfl⟩) (.none ⟨[], _, rfl, rfl, hro, .inl ⟨[], rfl, hro, ⟨_, rfl⟩, ?_⟩⟩)
    rw [eqd_selfs (sort_rows e0)]
theorem pen_sr {H' : Hp} {p c : Addr} {ns : List Int} {fo : Int} {σ : L2.St} (h2 : H' c = some (.lst (ns.map V.int))) (hp : H' p = some (.dK (penK c fo))) (ht : H' T.need = some (.tbl #[]) ∧ H' T.name = some (.tbl #[]) ∧ H' T.num = some (.tbl #[])) (hnd : T.need ≠ T.name ∧ T.need ≠ T.num ∧ T.name ≠ T.num) (hs : σ[1]? = some (some (.ref p))) :
    SR K ⟨upd (fun _ => none) c (.lst (ns.map V.int)), H', [p, T.need, T.name, T.num]⟩ (MM p (.dK (penD ns 0 0 0 fo)) T []) (SL p none none none none none none none none none none none) (upd (fun _ => none) c (.lst (ns.map V.int))) H' σ := by
  have pc : p ≠ c := fun e => by rw [e, h2] at hp; cases hp
  have t1 : T.need ≠ c := fun e => by rw [e, h2] at ht; cases ht.1
  have t2 : T.name ≠ c := fun e => by rw [e, h2] at ht; cases ht.2.1
  have t3 : T.num ≠ c := fun e => by rw [e, h2] at ht; cases ht.2.2
  have p1 : p ≠ T.need := fun e => by rw [e, ht.1] at hp; cases hp
  have p2 : p ≠ T.name := fun e => by rw [e, ht.2.1] at hp; cases hp
  have p3 : p ≠ T.num := fun e => by rw [e, ht.2.2] at hp; cases hp
  refine ⟨⟨fun x o e => ?_, fun q hq => ?_, ?_⟩, Step.refl, fun q hq => .inl ?_, List.prefix_refl _, fun i d hi => ?_⟩
  · by_cases hx : x = c
    · rw [hx, upd_same] at e
      rw [hx, h2, e]
    · rw [upd_ne hx] at e
      cases e
  · simp only [MM, List.mem_cons, List.not_mem_nil, or_false] at hq
    rcases hq with rfl | rfl | rfl | rfl
    · exact ⟨by rw [upd_ne pc], penK c fo, hp, .cons (.lst upd_same (ints_is ns)) (.cons (.int _) (.cons (.int _) (.cons (.int _) (.cons (.int _) .nil))))⟩
    · exact ⟨by rw [upd_ne t1], #[], ht.1, (by first | exact .nil | exact True.intro | decide), fun pos cv e => by cases (show (none : Option Value) = some cv from e)⟩
    · exact ⟨by rw [upd_ne t2], #[], ht.2.1, (by first | exact .nil | exact True.intro | decide), fun pos cv e => by cases (show (none : Option Value) = some cv from e)⟩
    · exact ⟨by rw [upd_ne t3], #[], ht.2.2, (by first | exact .nil | exact True.intro | decide), fun pos cv e => by cases (show (none : Option Value) = some cv from e)⟩
  · show [p, T.need, T.name, T.num].Nodup
    simp [p1, p2, p3, hnd.1, hnd.2.1, hnd.2.2]
  · simp only [MM, List.mem_cons, List.not_mem_nil, or_false] at hq
    rcases hq with rfl | rfl | rfl | rfl <;> simp
  · have h1 : i = 1 := by
      match i, hi with
      | 0, hi => cases hi
      | 1, _ => rfl
      | n + 2, hi =>
        have h2 : (List.replicate 11 (none : Option D))[n]? = some (some d) := hi
        rw [List.getElem?_replicate] at h2
        split at h2 <;> cases h2
    subst h1
    cases hi
    exact ⟨_, hs, .raw _⟩
theorem ok_law (F : Fun K "law" "law" sLaw f fd) (b : Bn mg) (G : Gs P w K mg base C CB CT T) (hnd : T.need ≠ T.name ∧ T.need ≠ T.num ∧ T.name ≠ T.num) (GP : FnOk P w K mg base (L2.CX P w) 1 fP fdP ["script"] (spPen K)) (hm : mg "_law_pen" = some (.ref fP)) (hk : PySem.W.keepIn K (.ref fP) = true) (hbi : Binds K fdP ["script"] []) :
    FnG P w K mg base 14 f fd ["script"] (spLaw K T) := by
  obtain ⟨oc, od, kV, doc, pm, an, cdv, ct, osl, rfl, lk, hcd⟩ := F.ex
  refine ⟨fun A outer s H args us vs Q E hg hr e0 hb r hl h => ?_⟩
  refine LamX.run_ofS (N := NL) (k := 13) lk hcd scLaw hr e0 hb r hl fun hr2 => ?_
  obtain ⟨a, ns, rfl, hS, hT, k⟩ := h
  refine ⟨_, pss_cons (ps_set (i := 1) scLaw.nd rfl (Or.inl rfl) (pe_callSD (E := fun _ _ _ _ => False) GP (hr2.mono (by decide)) rfl hm hk hbi .nil (fun σ pins H s e s' _ h => by
      obtain ⟨_, _, _, _, _, _, _, _, _, _, _, _, z⟩ := h
      exact z.elim) (pa_cons (pe_var (i := 0) rfl (Or.inl rfl) (by decide) (by decide)) pa_nil))) pss_run, ?_⟩
  refine ⟨_, rfl, a, ns, rfl, hS, fun H' p c fo f0 f1 hp hc sm h1 h2 => ?_⟩
  have hT' : H' T.need = some (.tbl #[]) ∧ H' T.name = some (.tbl #[]) ∧ H' T.num = some (.tbl #[]) := ⟨sm _ _ hT.1, sm _ _ hT.2.1, sm _ _ hT.2.2⟩
  refine law_rest b G hr2 ⟨ns, 0, 0, 0, fo, rfl, by decide, by decide, by decide, f0, f1, by decide⟩ ⟨upd (fun _ => none) c (.lst (ns.map V.int)), H', [p, T.need, T.name, T.num]⟩ (upd (fun _ => none) c (.lst (ns.map V.int))) H' _ (pen_sr h2 h1 hT' hnd rfl) _ ⟨fun Γ' M' Hn' H' σ' p S => p.elim, fun Γ' M' Hn' H' σ' p S => p.elim, fun Γ' M' Hn' H' σ' p S => p.elim, fun v d M' Hn' H' hd S r => ?_, fun x Γ' M' Hn' H' σ' cls dd p => p.elim⟩
  subst hd
  cases r
  exact k H'
end
end K28
end

section
set_option Elab.async false
set_option linter.all false
set_option maxRecDepth 100000
set_option maxHeartbeats 4000000
set_option pp.maxSteps 700
set_option hygiene false
open PySem PyProof.Rows L2 DL
namespace K28
open PySem PySem.Spec PyProof.Rows L2 DL TL DN
theorem most_is : (9999999999999999999999999999999999999999 : Int) = MOST := by decide +kernel
def refOf : Option (Option Value) → Addr
  | some (some (.ref a)) => a
  | _ => 0
def fN (K : PySem.W.Frag) (m : Str) : Addr := refOf (PySem.W.findIn K (.ref (refOf (PySem.W.nsIn K mainGlobals "Reader"))) m)
def codeOf (K : PySem.W.Frag) (f : Addr) : Addr := match K.lookup f with
  | some ⟨_, _, .func fd, _⟩ => (match fd.code with
    | .ref c => c
    | _ => 0)
  | _ => 0
def tableOf (K : PySem.W.Frag) (c : Addr) : Addr := match K.lookup c with
  | some ⟨_, _, .fields vs, _⟩ => (match (vs[11]? : Option Value) with
    | some (.ref P) => P
    | _ => 0)
  | _ => 0
def cN (K : PySem.W.Frag) (m : Str) : Addr := codeOf K (fN K m)
def tN (K : PySem.W.Frag) (m : Str) : Addr := tableOf K (cN K m)
def cs (K : PySem.W.Frag) : List (Addr × Addr) := [(cN K "need", tN K "need"), (cN K "need_name", tN K "need_name"), (cN K "need_number", tN K "need_number")]
def tabs (K : PySem.W.Frag) : Tabs3 := ⟨tN K "need", tN K "need_name", tN K "need_number"⟩
theorem cs1 {K : PySem.W.Frag} : (cN K "need", tN K "need") ∈ cs K := List.mem_cons_self
theorem cs2 {K : PySem.W.Frag} : (cN K "need_name", tN K "need_name") ∈ cs K := List.mem_cons_of_mem _ List.mem_cons_self
theorem cs3 {K : PySem.W.Frag} : (cN K "need_number", tN K "need_number") ∈ cs K := List.mem_cons_of_mem _ (List.mem_cons_of_mem _ List.mem_cons_self)
theorem cs_all {K : PySem.W.Frag} {q : Addr × Addr → Prop} (h1 : q (cN K "need", tN K "need")) (h2 : q (cN K "need_name", tN K "need_name")) (h3 : q (cN K "need_number", tN K "need_number")) : ∀ p ∈ cs K, q p := fun p hp => by
  simp only [cs, List.mem_cons, List.not_mem_nil, or_false] at hp
  rcases hp with rfl | rfl | rfl
  · exact h1
  · exact h2
  · exact h3
theorem walk_ofMK {l : PySem.W.OpenLaw} {n k : Nat} {q : Program} {loose : List Str} {XP : (Str → Option Value) → Heap → Prop} {YP : World → Heap → Prop} {d : DefRec} {Kf : Params → PySem.W.Frag} {x : Str}
    (most : l.most = some n) (mostLine : n ≤ sizeLine) (noDflt : d.params.defaults = []) (room : Room k callerA) (kinY : ∀ (w : World) (h : Heap), YP w h → (Kf w.params).In h)
    (k1 : ∀ w : World, PySem.W.codeHdIn (Kf w.params) (cN (Kf w.params) "need") (tN (Kf w.params) "need") = true) (n1 : ∀ w : World, (Kf w.params).lookup (tN (Kf w.params) "need") = none) (h1 : ∀ (w : World) (h : Heap), YP w h → h.get? (tN (Kf w.params) "need") = some tab0)
    (k2 : ∀ w : World, PySem.W.codeHdIn (Kf w.params) (cN (Kf w.params) "need_name") (tN (Kf w.params) "need_name") = true) (n2 : ∀ w : World, (Kf w.params).lookup (tN (Kf w.params) "need_name") = none) (h2 : ∀ (w : World) (h : Heap), YP w h → h.get? (tN (Kf w.params) "need_name") = some tab0)
    (k3 : ∀ w : World, PySem.W.codeHdIn (Kf w.params) (cN (Kf w.params) "need_number") (tN (Kf w.params) "need_number") = true) (n3 : ∀ w : World, (Kf w.params).lookup (tN (Kf w.params) "need_number") = none) (h3 : ∀ (w : World) (h : Heap), YP w h → h.get? (tN (Kf w.params) "need_number") = some tab0)
    (F : ∀ (w : World) (mg : Str → Option Value) (fa : Addr) (h : Heap), (Kf w.params).In h → h.Ns mainGlobals mg → mg d.name = some (.ref fa) → ∃ fd : FuncData, (∀ (s : Shared) (u : Value), BindsTo s fd ⟨[u], []⟩ [(x, u)]) ∧
      ∀ base : Heap, (Kf w.params).In base → base.Ns mainGlobals mg → (∀ p ∈ cs (Kf w.params), LamX.TabB base mg p.1 p.2) → FnG l.prog w (Kf w.params) mg base k fa fd [x] (spLaw (Kf w.params) (tabs (Kf w.params)))) : PySem.W.WalkO q loose XP YP l.row.toRowW d [] (fun f vs => PySem.call f vs) :=
  DL.walk_ofM (cs := fun w => cs (Kf w.params)) (sp := fun w => spLaw (Kf w.params) (tabs (Kf w.params))) most mostLine noDflt room kinY (fun w => cs_all (q := fun p => PySem.W.codeHdIn (Kf w.params) p.1 p.2 = true ∧ (Kf w.params).lookup p.2 = none) ⟨k1 w, n1 w⟩ ⟨k2 w, n2 w⟩ ⟨k3 w, n3 w⟩) (fun w h Y => cs_all (q := fun p => h.get? p.2 = some tab0) (h1 w h Y) (h2 w h Y) (h3 w h Y)) F fun _ _ a ns _ _ hT _ hS => ⟨a, ns, rfl, hS, ⟨hT _ cs1, hT _ cs2, hT _ cs3⟩, fun _ => rfl⟩
theorem mem_of {a : Addr} {l : List Addr} (h : l.contains a = true) : a ∈ l := by simpa using h
/-- an error of the class at S is what «except S» names -/
theorem exm_self {K : PySem.W.Frag} {S : Addr} (h1 : PySem.W.subIn K (.ref S) (.type "BaseException") = some true) (h2 : PySem.W.isClsIn K S = true) (h3 : PySem.W.typeIn K (.ref S) = some (.type "type")) (h4 : PySem.W.subIn K (.ref S) (.ref S) = some true) :
    PySem.W.exmOne K (.ref S) (.ref S) = some true := by
  have e1 : (PySem.W.subIn K (.ref S) (.type "BaseException") == some true) = true := by rw [h1] <;> rfl
  have e2 : ((PySem.W.clsIn K S).isSome && PySem.W.typeIn K (.ref S) == some (.type "type")) = true := by
    have h2' : (PySem.W.clsIn K S).isSome = true := h2
    rw [h2', h3] <;> rfl
  show (if (PySem.W.subIn K (.ref S) (.type "BaseException") == some true) = true then (if ((PySem.W.clsIn K S).isSome && PySem.W.typeIn K (.ref S) == some (.type "type")) = true then PySem.W.subIn K (.ref S) (.ref S) else none) else none) = some true
  rw [if_pos e1, if_pos e2]
  exact h4
theorem all_mk {l : PySem.W.OpenLaw} {w : World} {K : PySem.W.Frag} {h : Heap} {mg : Str → Option Value} {fa f_isName f_isListed f_isRow f_init f_eq f_bad f_tinit f_linesOf f_isNumeral f_rinit f_refuse f_take f_need f_nname f_nnum f_needEnd f_planText f_readRow f_planOf f_pen f_draw f_pick f_shuf f_name f_names f_isNm f_planRows f_line f_isNum2 f_wrong f_due f_spoilt f_why f_law f_whole T_whole T_nname T_nnum e_nname c1 c2 c3 t1 t2 t3 C CR CB CT : Addr} (X : K.In h) (G : h.Ns mainGlobals mg) (hfa : mg "law" = some (.ref fa))
    {od_isName an_isName : Option Addr} {sl_isName : Array (Option Value)} {oc_isName kV_isName dc_isName pm_isName cd_isName ct_isName : Value}
    {od_isListed an_isListed : Option Addr} {sl_isListed : Array (Option Value)} {oc_isListed kV_isListed dc_isListed pm_isListed cd_isListed ct_isListed : Value}
    {od_isRow an_isRow : Option Addr} {sl_isRow : Array (Option Value)} {oc_isRow kV_isRow dc_isRow pm_isRow cd_isRow ct_isRow : Value}
    {od_init an_init : Option Addr} {sl_init : Array (Option Value)} {oc_init kV_init dc_init pm_init cd_init ct_init : Value}
    {od_eq an_eq : Option Addr} {sl_eq : Array (Option Value)} {oc_eq kV_eq dc_eq pm_eq cd_eq ct_eq : Value}
    {od_bad an_bad : Option Addr} {sl_bad : Array (Option Value)} {oc_bad kV_bad dc_bad pm_bad cd_bad ct_bad : Value}
    {od_tinit an_tinit : Option Addr} {sl_tinit : Array (Option Value)} {oc_tinit kV_tinit dc_tinit pm_tinit cd_tinit ct_tinit : Value}
    {od_linesOf an_linesOf : Option Addr} {sl_linesOf : Array (Option Value)} {oc_linesOf kV_linesOf dc_linesOf pm_linesOf cd_linesOf ct_linesOf : Value}
    {od_isNumeral an_isNumeral : Option Addr} {sl_isNumeral : Array (Option Value)} {oc_isNumeral kV_isNumeral dc_isNumeral pm_isNumeral cd_isNumeral ct_isNumeral : Value}
    {od_rinit an_rinit : Option Addr} {sl_rinit : Array (Option Value)} {oc_rinit kV_rinit dc_rinit pm_rinit cd_rinit ct_rinit : Value}
    {od_refuse an_refuse : Option Addr} {sl_refuse : Array (Option Value)} {oc_refuse kV_refuse dc_refuse pm_refuse cd_refuse ct_refuse : Value}
    {od_take an_take : Option Addr} {sl_take : Array (Option Value)} {oc_take kV_take dc_take pm_take cd_take ct_take : Value}
    {od_need an_need : Option Addr} {sl_need : Array (Option Value)} {oc_need kV_need dc_need pm_need cd_need ct_need : Value}
    {od_nname an_nname : Option Addr} {sl_nname : Array (Option Value)} {oc_nname kV_nname dc_nname pm_nname cd_nname ct_nname : Value}
    {od_nnum an_nnum : Option Addr} {sl_nnum : Array (Option Value)} {oc_nnum kV_nnum dc_nnum pm_nnum cd_nnum ct_nnum : Value}
    {od_needEnd an_needEnd : Option Addr} {sl_needEnd : Array (Option Value)} {oc_needEnd kV_needEnd dc_needEnd pm_needEnd cd_needEnd ct_needEnd : Value}
    {od_planText an_planText : Option Addr} {sl_planText : Array (Option Value)} {oc_planText kV_planText dc_planText pm_planText cd_planText ct_planText : Value}
    {od_readRow an_readRow : Option Addr} {sl_readRow : Array (Option Value)} {oc_readRow kV_readRow dc_readRow pm_readRow cd_readRow ct_readRow : Value}
    {od_planOf an_planOf : Option Addr} {sl_planOf : Array (Option Value)} {oc_planOf kV_planOf dc_planOf pm_planOf cd_planOf ct_planOf : Value}
    {od_pen an_pen : Option Addr} {sl_pen : Array (Option Value)} {oc_pen kV_pen dc_pen pm_pen cd_pen ct_pen : Value}
    {od_draw an_draw : Option Addr} {sl_draw : Array (Option Value)} {oc_draw kV_draw dc_draw pm_draw cd_draw ct_draw : Value}
    {od_pick an_pick : Option Addr} {sl_pick : Array (Option Value)} {oc_pick kV_pick dc_pick pm_pick cd_pick ct_pick : Value}
    {od_shuf an_shuf : Option Addr} {sl_shuf : Array (Option Value)} {oc_shuf kV_shuf dc_shuf pm_shuf cd_shuf ct_shuf : Value}
    {od_name an_name : Option Addr} {sl_name : Array (Option Value)} {oc_name kV_name dc_name pm_name cd_name ct_name : Value}
    {od_names an_names : Option Addr} {sl_names : Array (Option Value)} {oc_names kV_names dc_names pm_names cd_names ct_names : Value}
    {od_isNm an_isNm : Option Addr} {sl_isNm : Array (Option Value)} {oc_isNm kV_isNm dc_isNm pm_isNm cd_isNm ct_isNm : Value}
    {od_planRows an_planRows : Option Addr} {sl_planRows : Array (Option Value)} {oc_planRows kV_planRows dc_planRows pm_planRows cd_planRows ct_planRows : Value}
    {od_line an_line : Option Addr} {sl_line : Array (Option Value)} {oc_line kV_line dc_line pm_line cd_line ct_line : Value}
    {od_isNum2 an_isNum2 : Option Addr} {sl_isNum2 : Array (Option Value)} {oc_isNum2 kV_isNum2 dc_isNum2 pm_isNum2 cd_isNum2 ct_isNum2 : Value}
    {od_wrong an_wrong : Option Addr} {sl_wrong : Array (Option Value)} {oc_wrong kV_wrong dc_wrong pm_wrong cd_wrong ct_wrong : Value}
    {od_due an_due : Option Addr} {sl_due : Array (Option Value)} {oc_due kV_due dc_due pm_due cd_due ct_due : Value}
    {od_spoilt an_spoilt : Option Addr} {sl_spoilt : Array (Option Value)} {oc_spoilt kV_spoilt dc_spoilt pm_spoilt cd_spoilt ct_spoilt : Value}
    {od_why an_why : Option Addr} {sl_why : Array (Option Value)} {oc_why kV_why dc_why pm_why cd_why ct_why : Value}
    {od_law an_law : Option Addr} {sl_law : Array (Option Value)} {oc_law kV_law dc_law pm_law cd_law ct_law : Value}
    {nmCB qBCB : Str} {NBCB : Addr} {bsCB bmCB : List Value} {snCB : List Str} {subCB : List Value} {abCB : Bool} {colCB : Option Bool} {ddCB : Option Addr} {m0CB m1CB m2CB m3CB m5CB : Option Value}
    {nmCT qBCT : Str} {NBCT : Addr} {bsCT bmCT : List Value} {snCT : List Str} {subCT : List Value} {abCT : Bool} {colCT : Option Bool} {ddCT : Option Addr} {m0CT m1CT m2CT m3CT m5CT : Option Value}
    {od_whole an_whole : Option Addr} {sl_whole : Array (Option Value)} {oc_whole kV_whole dc_whole pm_whole cd_whole ct_whole : Value}
    {ocT ocT1 ocT3 : Value} {odT odT1 odT2 odT3 : Option Addr} {nTup nTup1 nTup2 nTup3 : Nat} {slT slT1 slT2 slT3 : Array (Option Value)} {tM tF tL : Tok}
    (a_C : PySem.W.nsIn K mainGlobals "Plan" = some (some (.ref C)))
    (pg_C : PySem.W.plainGet K C Str.empty = true)
    (hd_C : PySem.W.hasDictIn K C = true)
    (po_C : PySem.W.plainOver K C = true)
    (sa_C : PySem.W.findIn K (.ref C) "__setattr__" = some (some (.builtin "object.__setattr__")))
    (mk_C : PySem.W.makesIn K C = true)
    (kc_C : PySem.W.keepIn K (.ref C) = true)
    (n_C_rows : PySem.W.findIn K (.ref C) "rows" = some none)
    (n_C__told : PySem.W.findIn K (.ref C) "_told" = some none)
    (a_CR : PySem.W.nsIn K mainGlobals "Reader" = some (some (.ref CR)))
    (pg_CR : PySem.W.plainGet K CR Str.empty = true)
    (hd_CR : PySem.W.hasDictIn K CR = true)
    (po_CR : PySem.W.plainOver K CR = true)
    (sa_CR : PySem.W.findIn K (.ref CR) "__setattr__" = some (some (.builtin "object.__setattr__")))
    (mk_CR : PySem.W.makesIn K CR = true)
    (kc_CR : PySem.W.keepIn K (.ref CR) = true)
    (n_CR_words : PySem.W.findIn K (.ref CR) "words" = some none)
    (n_CR_line : PySem.W.findIn K (.ref CR) "line" = some none)
    (n_CR_spot : PySem.W.findIn K (.ref CR) "spot" = some none)
    (a_CB : PySem.W.nsIn K mainGlobals "BadRow" = some (some (.ref CB)))
    (xL_CB : K.lookup CB = some (excClassObj nmCB qBCB CB NBCB bsCB bmCB true snCB subCB abCB colCB ddCB m0CB m1CB m2CB m3CB m5CB "ValueError.__new__"))
    (vB_CB : PySem.HandSPX.refsVE bmCB = true)
    (sa_CB : PySem.W.findIn K (.ref CB) "__setattr__" = some (some (.builtin "object.__setattr__")))
    (ga_CB : PySem.W.findIn K (.ref CB) "__getattribute__" = some (some (.builtin "BaseException.__getattribute__")))
    (gg_CB : PySem.W.findIn K (.ref CB) "__getattr__" = some none)
    (n_CB_what : PySem.W.findIn K (.ref CB) "what" = some none)
    (n_CB_row : PySem.W.findIn K (.ref CB) "row" = some none)
    (kB_CB : PySem.W.keepIn K (.ref CB) = true)
    (eB_CB : PySem.W.subIn K (.ref CB) (.type "BaseException") = some true)
    (tB_CB : PySem.W.typeIn K (.ref CB) = some (.type "type"))
    (hB_CB : PySem.W.hasDictIn K CB = true)
    (iB_CB : PySem.W.isClsIn K CB = true)
    (sB_CB : PySem.W.subIn K (.ref CB) (.ref CB) = some true)
    (a_CT : PySem.W.nsIn K mainGlobals "BadText" = some (some (.ref CT)))
    (xL_CT : K.lookup CT = some (excClassObj nmCT qBCT CT NBCT bsCT bmCT true snCT subCT abCT colCT ddCT m0CT m1CT m2CT m3CT m5CT "ValueError.__new__"))
    (vB_CT : PySem.HandSPX.refsVE bmCT = true)
    (sa_CT : PySem.W.findIn K (.ref CT) "__setattr__" = some (some (.builtin "object.__setattr__")))
    (ga_CT : PySem.W.findIn K (.ref CT) "__getattribute__" = some (some (.builtin "BaseException.__getattribute__")))
    (gg_CT : PySem.W.findIn K (.ref CT) "__getattr__" = some none)
    (n_CT_line : PySem.W.findIn K (.ref CT) "line" = some none)
    (n_CT_word : PySem.W.findIn K (.ref CT) "word" = some none)
    (kB_CT : PySem.W.keepIn K (.ref CT) = true)
    (eB_CT : PySem.W.subIn K (.ref CT) (.type "BaseException") = some true)
    (tB_CT : PySem.W.typeIn K (.ref CT) = some (.type "type"))
    (hB_CT : PySem.W.hasDictIn K CT = true)
    (iB_CT : PySem.W.isClsIn K CT = true)
    (sB_CT : PySem.W.subIn K (.ref CT) (.ref CT) = some true)
    (a_isName : PySem.W.nsIn K mainGlobals "is_name" = some (some (.ref f_isName)))
    (l_isName : K.lookup f_isName = some ⟨oc_isName, od_isName, .func (PySem.W.fnOf "is_name" "is_name" (defArgs sIsName) (defBody sIsName) (defScope sIsName) .none kV_isName dc_isName pm_isName an_isName cd_isName ct_isName), sl_isName⟩)
    (c_isName : PySem.W.codeIn K cd_isName "is_name" = true)
    (k_isName : PySem.W.keepIn K (.ref f_isName) = true)
    (a_isListed : PySem.W.nsIn K mainGlobals "is_listed" = some (some (.ref f_isListed)))
    (l_isListed : K.lookup f_isListed = some ⟨oc_isListed, od_isListed, .func (PySem.W.fnOf "is_listed" "is_listed" (defArgs sIsListed) (defBody sIsListed) (defScope sIsListed) .none kV_isListed dc_isListed pm_isListed an_isListed cd_isListed ct_isListed), sl_isListed⟩)
    (c_isListed : PySem.W.codeIn K cd_isListed "is_listed" = true)
    (k_isListed : PySem.W.keepIn K (.ref f_isListed) = true)
    (a_isRow : PySem.W.nsIn K mainGlobals "is_plan_row" = some (some (.ref f_isRow)))
    (l_isRow : K.lookup f_isRow = some ⟨oc_isRow, od_isRow, .func (PySem.W.fnOf "is_plan_row" "is_plan_row" (defArgs sIsRow) (defBody sIsRow) (defScope sIsRow) .none kV_isRow dc_isRow pm_isRow an_isRow cd_isRow ct_isRow), sl_isRow⟩)
    (c_isRow : PySem.W.codeIn K cd_isRow "is_plan_row" = true)
    (k_isRow : PySem.W.keepIn K (.ref f_isRow) = true)
    (a_init : PySem.W.findIn K (.ref C) "__init__" = some (some (.ref f_init)))
    (i_init : PySem.W.isFn K (.ref f_init) = true)
    (l_init : K.lookup f_init = some ⟨oc_init, od_init, .func (PySem.W.fnOf "__init__" "Plan.__init__" (defArgs sInit) (defBody sInit) (defScope sInit) .none kV_init dc_init pm_init an_init cd_init ct_init), sl_init⟩)
    (c_init : PySem.W.codeIn K cd_init "Plan.__init__" = true)
    (k_init : PySem.W.keepIn K (.ref f_init) = true)
    (a_eq : PySem.W.findIn K (.ref C) "__eq__" = some (some (.ref f_eq)))
    (i_eq : PySem.W.isFn K (.ref f_eq) = true)
    (l_eq : K.lookup f_eq = some ⟨oc_eq, od_eq, .func (PySem.W.fnOf "__eq__" "Plan.__eq__" (defArgs sEq) (defBody sEq) (defScope sEq) .none kV_eq dc_eq pm_eq an_eq cd_eq ct_eq), sl_eq⟩)
    (c_eq : PySem.W.codeIn K cd_eq "Plan.__eq__" = true)
    (k_eq : PySem.W.keepIn K (.ref f_eq) = true)
    (a_bad : PySem.W.findIn K (.ref CB) "__init__" = some (some (.ref f_bad)))
    (i_bad : PySem.W.isFn K (.ref f_bad) = true)
    (l_bad : K.lookup f_bad = some ⟨oc_bad, od_bad, .func (PySem.W.fnOf "__init__" "BadRow.__init__" (defArgs sBadInit) (defBody sBadInit) (defScope sBadInit) .none kV_bad dc_bad pm_bad an_bad cd_bad ct_bad), sl_bad⟩)
    (c_bad : PySem.W.codeIn K cd_bad "BadRow.__init__" = true)
    (k_bad : PySem.W.keepIn K (.ref f_bad) = true)
    (a_tinit : PySem.W.findIn K (.ref CT) "__init__" = some (some (.ref f_tinit)))
    (i_tinit : PySem.W.isFn K (.ref f_tinit) = true)
    (l_tinit : K.lookup f_tinit = some ⟨oc_tinit, od_tinit, .func (PySem.W.fnOf "__init__" "BadText.__init__" (defArgs sTextInit) (defBody sTextInit) (defScope sTextInit) .none kV_tinit dc_tinit pm_tinit an_tinit cd_tinit ct_tinit), sl_tinit⟩)
    (c_tinit : PySem.W.codeIn K cd_tinit "BadText.__init__" = true)
    (k_tinit : PySem.W.keepIn K (.ref f_tinit) = true)
    (a_linesOf : PySem.W.nsIn K mainGlobals "lines_of" = some (some (.ref f_linesOf)))
    (l_linesOf : K.lookup f_linesOf = some ⟨oc_linesOf, od_linesOf, .func (PySem.W.fnOf "lines_of" "lines_of" (defArgs sLinesOf) (defBody sLinesOf) (defScope sLinesOf) .none kV_linesOf dc_linesOf pm_linesOf an_linesOf cd_linesOf ct_linesOf), sl_linesOf⟩)
    (c_linesOf : PySem.W.codeIn K cd_linesOf "lines_of" = true)
    (k_linesOf : PySem.W.keepIn K (.ref f_linesOf) = true)
    (a_isNumeral : PySem.W.nsIn K mainGlobals "is_numeral" = some (some (.ref f_isNumeral)))
    (l_isNumeral : K.lookup f_isNumeral = some ⟨oc_isNumeral, od_isNumeral, .func (PySem.W.fnOf "is_numeral" "is_numeral" (defArgs sIsNumeral) (defBody sIsNumeral) (defScope sIsNumeral) .none kV_isNumeral dc_isNumeral pm_isNumeral an_isNumeral cd_isNumeral ct_isNumeral), sl_isNumeral⟩)
    (c_isNumeral : PySem.W.codeIn K cd_isNumeral "is_numeral" = true)
    (k_isNumeral : PySem.W.keepIn K (.ref f_isNumeral) = true)
    (a_rinit : PySem.W.findIn K (.ref CR) "__init__" = some (some (.ref f_rinit)))
    (i_rinit : PySem.W.isFn K (.ref f_rinit) = true)
    (l_rinit : K.lookup f_rinit = some ⟨oc_rinit, od_rinit, .func (PySem.W.fnOf "__init__" "Reader.__init__" (defArgs sRInit) (defBody sRInit) (defScope sRInit) .none kV_rinit dc_rinit pm_rinit an_rinit cd_rinit ct_rinit), sl_rinit⟩)
    (c_rinit : PySem.W.codeIn K cd_rinit "Reader.__init__" = true)
    (k_rinit : PySem.W.keepIn K (.ref f_rinit) = true)
    (a_refuse : PySem.W.findIn K (.ref CR) "refuse" = some (some (.ref f_refuse)))
    (i_refuse : PySem.W.isFn K (.ref f_refuse) = true)
    (l_refuse : K.lookup f_refuse = some ⟨oc_refuse, od_refuse, .func (PySem.W.fnOf "refuse" "Reader.refuse" (defArgs sRefuse) (defBody sRefuse) (defScope sRefuse) .none kV_refuse dc_refuse pm_refuse an_refuse cd_refuse ct_refuse), sl_refuse⟩)
    (c_refuse : PySem.W.codeIn K cd_refuse "Reader.refuse" = true)
    (k_refuse : PySem.W.keepIn K (.ref f_refuse) = true)
    (a_take : PySem.W.findIn K (.ref CR) "take" = some (some (.ref f_take)))
    (i_take : PySem.W.isFn K (.ref f_take) = true)
    (l_take : K.lookup f_take = some ⟨oc_take, od_take, .func (PySem.W.fnOf "take" "Reader.take" (defArgs sTake) (defBody sTake) (defScope sTake) .none kV_take dc_take pm_take an_take cd_take ct_take), sl_take⟩)
    (c_take : PySem.W.codeIn K cd_take "Reader.take" = true)
    (k_take : PySem.W.keepIn K (.ref f_take) = true)
    (a_need : PySem.W.findIn K (.ref CR) "need" = some (some (.ref f_need)))
    (i_need : PySem.W.isFn K (.ref f_need) = true)
    (l_need : K.lookup f_need = some ⟨oc_need, od_need, .func (PySem.W.fnOf "need" "Reader.need" (defArgs sNeed) (defBody sNeed) (defScope sNeed) .none kV_need dc_need pm_need an_need cd_need ct_need), sl_need⟩)
    (c_need : PySem.W.codeIn K cd_need "Reader.need" = true)
    (k_need : PySem.W.keepIn K (.ref f_need) = true)
    (a_nname : PySem.W.findIn K (.ref CR) "need_name" = some (some (.ref f_nname)))
    (i_nname : PySem.W.isFn K (.ref f_nname) = true)
    (l_nname : K.lookup f_nname = some ⟨oc_nname, od_nname, .func (PySem.W.fnOf "need_name" "Reader.need_name" (defArgs sNeedName) (defBody sNeedName) (defScope sNeedName) (.ref T_nname) kV_nname dc_nname pm_nname an_nname cd_nname ct_nname), sl_nname⟩)
    (c_nname : PySem.W.codeIn K cd_nname "Reader.need_name" = true)
    (k_nname : PySem.W.keepIn K (.ref f_nname) = true)
    (a_nnum : PySem.W.findIn K (.ref CR) "need_number" = some (some (.ref f_nnum)))
    (i_nnum : PySem.W.isFn K (.ref f_nnum) = true)
    (l_nnum : K.lookup f_nnum = some ⟨oc_nnum, od_nnum, .func (PySem.W.fnOf "need_number" "Reader.need_number" (defArgs sNeedNum) (defBody sNeedNum) (defScope sNeedNum) (.ref T_nnum) kV_nnum dc_nnum pm_nnum an_nnum cd_nnum ct_nnum), sl_nnum⟩)
    (c_nnum : PySem.W.codeIn K cd_nnum "Reader.need_number" = true)
    (k_nnum : PySem.W.keepIn K (.ref f_nnum) = true)
    (a_needEnd : PySem.W.findIn K (.ref CR) "need_end" = some (some (.ref f_needEnd)))
    (i_needEnd : PySem.W.isFn K (.ref f_needEnd) = true)
    (l_needEnd : K.lookup f_needEnd = some ⟨oc_needEnd, od_needEnd, .func (PySem.W.fnOf "need_end" "Reader.need_end" (defArgs sNeedEnd) (defBody sNeedEnd) (defScope sNeedEnd) .none kV_needEnd dc_needEnd pm_needEnd an_needEnd cd_needEnd ct_needEnd), sl_needEnd⟩)
    (c_needEnd : PySem.W.codeIn K cd_needEnd "Reader.need_end" = true)
    (k_needEnd : PySem.W.keepIn K (.ref f_needEnd) = true)
    (a_planText : PySem.W.nsIn K mainGlobals "plan_text" = some (some (.ref f_planText)))
    (l_planText : K.lookup f_planText = some ⟨oc_planText, od_planText, .func (PySem.W.fnOf "plan_text" "plan_text" (defArgs sPlanText) (defBody sPlanText) (defScope sPlanText) .none kV_planText dc_planText pm_planText an_planText cd_planText ct_planText), sl_planText⟩)
    (c_planText : PySem.W.codeIn K cd_planText "plan_text" = true)
    (k_planText : PySem.W.keepIn K (.ref f_planText) = true)
    (a_readRow : PySem.W.nsIn K mainGlobals "read_row" = some (some (.ref f_readRow)))
    (l_readRow : K.lookup f_readRow = some ⟨oc_readRow, od_readRow, .func (PySem.W.fnOf "read_row" "read_row" (defArgs sReadRow) (defBody sReadRow) (defScope sReadRow) .none kV_readRow dc_readRow pm_readRow an_readRow cd_readRow ct_readRow), sl_readRow⟩)
    (c_readRow : PySem.W.codeIn K cd_readRow "read_row" = true)
    (k_readRow : PySem.W.keepIn K (.ref f_readRow) = true)
    (a_planOf : PySem.W.nsIn K mainGlobals "plan_of" = some (some (.ref f_planOf)))
    (l_planOf : K.lookup f_planOf = some ⟨oc_planOf, od_planOf, .func (PySem.W.fnOf "plan_of" "plan_of" (defArgs sPlanOf) (defBody sPlanOf) (defScope sPlanOf) .none kV_planOf dc_planOf pm_planOf an_planOf cd_planOf ct_planOf), sl_planOf⟩)
    (c_planOf : PySem.W.codeIn K cd_planOf "plan_of" = true)
    (k_planOf : PySem.W.keepIn K (.ref f_planOf) = true)
    (a_pen : PySem.W.nsIn K mainGlobals "_law_pen" = some (some (.ref f_pen)))
    (l_pen : K.lookup f_pen = some ⟨oc_pen, od_pen, .func (PySem.W.fnOf "_law_pen" "_law_pen" (defArgs sPen) (defBody sPen) (defScope sPen) .none kV_pen dc_pen pm_pen an_pen cd_pen ct_pen), sl_pen⟩)
    (c_pen : PySem.W.codeIn K cd_pen "_law_pen" = true)
    (k_pen : PySem.W.keepIn K (.ref f_pen) = true)
    (a_draw : PySem.W.nsIn K mainGlobals "_law_draw" = some (some (.ref f_draw)))
    (l_draw : K.lookup f_draw = some ⟨oc_draw, od_draw, .func (PySem.W.fnOf "_law_draw" "_law_draw" (defArgs sDraw) (defBody sDraw) (defScope sDraw) .none kV_draw dc_draw pm_draw an_draw cd_draw ct_draw), sl_draw⟩)
    (c_draw : PySem.W.codeIn K cd_draw "_law_draw" = true)
    (k_draw : PySem.W.keepIn K (.ref f_draw) = true)
    (a_pick : PySem.W.nsIn K mainGlobals "_law_pick" = some (some (.ref f_pick)))
    (l_pick : K.lookup f_pick = some ⟨oc_pick, od_pick, .func (PySem.W.fnOf "_law_pick" "_law_pick" (defArgs sPick) (defBody sPick) (defScope sPick) .none kV_pick dc_pick pm_pick an_pick cd_pick ct_pick), sl_pick⟩)
    (c_pick : PySem.W.codeIn K cd_pick "_law_pick" = true)
    (k_pick : PySem.W.keepIn K (.ref f_pick) = true)
    (a_shuf : PySem.W.nsIn K mainGlobals "_law_shuffled" = some (some (.ref f_shuf)))
    (l_shuf : K.lookup f_shuf = some ⟨oc_shuf, od_shuf, .func (PySem.W.fnOf "_law_shuffled" "_law_shuffled" (defArgs sShuf) (defBody sShuf) (defScope sShuf) .none kV_shuf dc_shuf pm_shuf an_shuf cd_shuf ct_shuf), sl_shuf⟩)
    (c_shuf : PySem.W.codeIn K cd_shuf "_law_shuffled" = true)
    (k_shuf : PySem.W.keepIn K (.ref f_shuf) = true)
    (a_name : PySem.W.nsIn K mainGlobals "_law_name" = some (some (.ref f_name)))
    (l_name : K.lookup f_name = some ⟨oc_name, od_name, .func (PySem.W.fnOf "_law_name" "_law_name" (defArgs sName) (defBody sName) (defScope sName) .none kV_name dc_name pm_name an_name cd_name ct_name), sl_name⟩)
    (c_name : PySem.W.codeIn K cd_name "_law_name" = true)
    (k_name : PySem.W.keepIn K (.ref f_name) = true)
    (a_names : PySem.W.nsIn K mainGlobals "_law_names" = some (some (.ref f_names)))
    (l_names : K.lookup f_names = some ⟨oc_names, od_names, .func (PySem.W.fnOf "_law_names" "_law_names" (defArgs sNames) (defBody sNames) (defScope sNames) .none kV_names dc_names pm_names an_names cd_names ct_names), sl_names⟩)
    (c_names : PySem.W.codeIn K cd_names "_law_names" = true)
    (k_names : PySem.W.keepIn K (.ref f_names) = true)
    (a_isNm : PySem.W.nsIn K mainGlobals "_law_is_name" = some (some (.ref f_isNm)))
    (l_isNm : K.lookup f_isNm = some ⟨oc_isNm, od_isNm, .func (PySem.W.fnOf "_law_is_name" "_law_is_name" (defArgs sIsNm) (defBody sIsNm) (defScope sIsNm) .none kV_isNm dc_isNm pm_isNm an_isNm cd_isNm ct_isNm), sl_isNm⟩)
    (c_isNm : PySem.W.codeIn K cd_isNm "_law_is_name" = true)
    (k_isNm : PySem.W.keepIn K (.ref f_isNm) = true)
    (a_planRows : PySem.W.nsIn K mainGlobals "_law_plan_rows" = some (some (.ref f_planRows)))
    (l_planRows : K.lookup f_planRows = some ⟨oc_planRows, od_planRows, .func (PySem.W.fnOf "_law_plan_rows" "_law_plan_rows" (defArgs sPlanRows) (defBody sPlanRows) (defScope sPlanRows) .none kV_planRows dc_planRows pm_planRows an_planRows cd_planRows ct_planRows), sl_planRows⟩)
    (c_planRows : PySem.W.codeIn K cd_planRows "_law_plan_rows" = true)
    (k_planRows : PySem.W.keepIn K (.ref f_planRows) = true)
    (a_line : PySem.W.nsIn K mainGlobals "_law_line" = some (some (.ref f_line)))
    (l_line : K.lookup f_line = some ⟨oc_line, od_line, .func (PySem.W.fnOf "_law_line" "_law_line" (defArgs sLine) (defBody sLine) (defScope sLine) .none kV_line dc_line pm_line an_line cd_line ct_line), sl_line⟩)
    (c_line : PySem.W.codeIn K cd_line "_law_line" = true)
    (k_line : PySem.W.keepIn K (.ref f_line) = true)
    (a_isNum2 : PySem.W.nsIn K mainGlobals "_law_is_numeral" = some (some (.ref f_isNum2)))
    (l_isNum2 : K.lookup f_isNum2 = some ⟨oc_isNum2, od_isNum2, .func (PySem.W.fnOf "_law_is_numeral" "_law_is_numeral" (defArgs sNumeral2) (defBody sNumeral2) (defScope sNumeral2) .none kV_isNum2 dc_isNum2 pm_isNum2 an_isNum2 cd_isNum2 ct_isNum2), sl_isNum2⟩)
    (c_isNum2 : PySem.W.codeIn K cd_isNum2 "_law_is_numeral" = true)
    (k_isNum2 : PySem.W.keepIn K (.ref f_isNum2) = true)
    (a_wrong : PySem.W.nsIn K mainGlobals "_law_wrong_word" = some (some (.ref f_wrong)))
    (l_wrong : K.lookup f_wrong = some ⟨oc_wrong, od_wrong, .func (PySem.W.fnOf "_law_wrong_word" "_law_wrong_word" (defArgs sWrong) (defBody sWrong) (defScope sWrong) .none kV_wrong dc_wrong pm_wrong an_wrong cd_wrong ct_wrong), sl_wrong⟩)
    (c_wrong : PySem.W.codeIn K cd_wrong "_law_wrong_word" = true)
    (k_wrong : PySem.W.keepIn K (.ref f_wrong) = true)
    (a_due : PySem.W.nsIn K mainGlobals "_law_due" = some (some (.ref f_due)))
    (l_due : K.lookup f_due = some ⟨oc_due, od_due, .func (PySem.W.fnOf "_law_due" "_law_due" (defArgs sDue) (defBody sDue) (defScope sDue) .none kV_due dc_due pm_due an_due cd_due ct_due), sl_due⟩)
    (c_due : PySem.W.codeIn K cd_due "_law_due" = true)
    (k_due : PySem.W.keepIn K (.ref f_due) = true)
    (a_spoilt : PySem.W.nsIn K mainGlobals "_law_spoilt" = some (some (.ref f_spoilt)))
    (l_spoilt : K.lookup f_spoilt = some ⟨oc_spoilt, od_spoilt, .func (PySem.W.fnOf "_law_spoilt" "_law_spoilt" (defArgs sSpoilt) (defBody sSpoilt) (defScope sSpoilt) .none kV_spoilt dc_spoilt pm_spoilt an_spoilt cd_spoilt ct_spoilt), sl_spoilt⟩)
    (c_spoilt : PySem.W.codeIn K cd_spoilt "_law_spoilt" = true)
    (k_spoilt : PySem.W.keepIn K (.ref f_spoilt) = true)
    (a_why : PySem.W.nsIn K mainGlobals "_law_why" = some (some (.ref f_why)))
    (l_why : K.lookup f_why = some ⟨oc_why, od_why, .func (PySem.W.fnOf "_law_why" "_law_why" (defArgs sWhy) (defBody sWhy) (defScope sWhy) .none kV_why dc_why pm_why an_why cd_why ct_why), sl_why⟩)
    (c_why : PySem.W.codeIn K cd_why "_law_why" = true)
    (k_why : PySem.W.keepIn K (.ref f_why) = true)
    (a_law : PySem.W.nsIn K mainGlobals "law" = some (some (.ref f_law)))
    (l_law : K.lookup f_law = some ⟨oc_law, od_law, .func (PySem.W.fnOf "law" "law" (defArgs sLaw) (defBody sLaw) (defScope sLaw) .none kV_law dc_law pm_law an_law cd_law ct_law), sl_law⟩)
    (c_law : PySem.W.codeIn K cd_law "law" = true)
    (k_law : PySem.W.keepIn K (.ref f_law) = true)
    (tI_CB : PySem.W.typeIn K (.ref f_bad) = some (.type "function"))
    (tI_CT : PySem.W.typeIn K (.ref f_tinit) = some (.type "function"))
    (r_need : cd_need = .ref c1)
    (r_nname : cd_nname = .ref c2)
    (r_nnum : cd_nnum = .ref c3)
    (a_whole : PySem.W.nsIn K mainGlobals "is_whole" = some (some (.ref f_whole)))
    (l_whole : K.lookup f_whole = some ⟨oc_whole, od_whole, .func (PySem.W.fnOf "is_whole" "is_whole" (defArgs sIsWhole) (defBody sIsWhole) (defScope sIsWhole) (.ref T_whole) kV_whole dc_whole pm_whole an_whole cd_whole ct_whole), sl_whole⟩)
    (c_whole : PySem.W.codeIn K cd_whole "is_whole" = true)
    (k_whole : PySem.W.keepIn K (.ref f_whole) = true)
    (d_whole : K.lookup T_whole = some ⟨ocT, odT, .seq [Value.none].toArray nTup, slT⟩)
    (d_nname : K.lookup T_nname = some ⟨ocT1, odT1, .seq [Value.ref e_nname].toArray nTup1, slT1⟩)
    (e_nn : K.lookup e_nname = some ⟨.type "tuple", odT2, .seq [].toArray nTup2, slT2⟩)
    (d_nnum : K.lookup T_nnum = some ⟨ocT3, odT3, .seq [Value.none].toArray nTup3, slT3⟩)
    (aM : PySem.W.nsIn K mainGlobals "MOST_NUMBER" = some (some (.int 9999999999999999999999999999999999999999 tM)))
    (aF : PySem.W.nsIn K mainGlobals "FIGURES" = some (some (.str figs tF)))
    (aL : PySem.W.nsIn K mainGlobals "LONGEST" = some (some (.int 40 tL)))
    (q1 : PySem.W.kitOne K (.type "tuple") (.ref C) = some false)
    (q2 : PySem.W.kitOne K (.ref C) (.ref C) = some true)
    (icA : PySem.W.findIn K (.ref C) "__class__" = some (some (.builtin "object.__class__")))
    (icB : PySem.W.specialIn K (.builtin "object.__class__") "__get__" = some (some (.builtin "getset_descriptor.__get__")))
    (icC : PySem.W.takesIn K (.builtin "object.__class__") = some true)
    (icD : PySem.W.mroIn K C (.type "object") = some true)
    (neC : PySem.W.findIn K (.ref C) "__ne__" = some (some (.builtin "object.__ne__")))
    (nd3 : (t1 != t2 && (t1 != t3 && t2 != t3)) = true)
    (z_isinstance : PySem.W.nsIn K mainGlobals "isinstance" = some none)
    (z_len : PySem.W.nsIn K mainGlobals "len" = some none)
    (z_all : PySem.W.nsIn K mainGlobals "all" = some none)
    (z_any : PySem.W.nsIn K mainGlobals "any" = some none)
    (z_range : PySem.W.nsIn K mainGlobals "range" = some none)
    (z_sorted : PySem.W.nsIn K mainGlobals "sorted" = some none)
    (z_zip : PySem.W.nsIn K mainGlobals "zip" = some none)
    (z_min : PySem.W.nsIn K mainGlobals "min" = some none)
    (z_str : PySem.W.nsIn K mainGlobals "str" = some none)
    (z_int : PySem.W.nsIn K mainGlobals "int" = some none)
    (z_bool : PySem.W.nsIn K mainGlobals "bool" = some none)
    (z_list : PySem.W.nsIn K mainGlobals "list" = some none)
    (z_tuple : PySem.W.nsIn K mainGlobals "tuple" = some none)
    (z_dict : PySem.W.nsIn K mainGlobals "dict" = some none)
    (z_enumerate : PySem.W.nsIn K mainGlobals "enumerate" = some none) :
    ∃ fd : FuncData, (∀ (s : Shared) (v : Value), BindsTo s fd ⟨[v], []⟩ [("script", v)]) ∧ ∀ base : Heap, K.In base → base.Ns mainGlobals mg → (∀ p ∈ [(c1, t1), (c2, t2), (c3, t3)], LamX.TabB base mg p.1 p.2) → FnG l.prog w K mg base 14 fa fd ["script"] (spLaw K ⟨t1, t2, t3⟩) := by
  have e := hfa.symm.trans (PySem.W.mg_of X G a_law)
  cases e
  have b : Bn mg := ⟨PySem.W.mg_none_of X G z_isinstance, PySem.W.mg_none_of X G z_len, PySem.W.mg_none_of X G z_all, PySem.W.mg_none_of X G z_any, PySem.W.mg_none_of X G z_range, PySem.W.mg_none_of X G z_sorted, PySem.W.mg_none_of X G z_zip, PySem.W.mg_none_of X G z_min, PySem.W.mg_none_of X G z_str, PySem.W.mg_none_of X G z_int, PySem.W.mg_none_of X G z_bool, PySem.W.mg_none_of X G z_list, PySem.W.mg_none_of X G z_tuple, PySem.W.mg_none_of X G z_dict⟩
  have F_isName := fun_mk (st := sIsName) l_isName c_isName k_isName
  have b_isName := F_isName.binds (ps := ["value"]) fun _ _ _ _ _ _ us hl => match us, hl with | [_], _ => rfl
  have F_isListed := fun_mk (st := sIsListed) l_isListed c_isListed k_isListed
  have b_isListed := F_isListed.binds (ps := ["value"]) fun _ _ _ _ _ _ us hl => match us, hl with | [_], _ => rfl
  have F_isRow := fun_mk (st := sIsRow) l_isRow c_isRow k_isRow
  have b_isRow := F_isRow.binds (ps := ["value"]) fun _ _ _ _ _ _ us hl => match us, hl with | [_], _ => rfl
  have F_init := fun_mk (st := sInit) l_init c_init k_init
  have b_init := F_init.binds (ps := ["self", "rows"]) fun _ _ _ _ _ _ us hl => match us, hl with | [_, _], _ => rfl
  have F_eq := fun_mk (st := sEq) l_eq c_eq k_eq
  have b_eq := F_eq.binds (ps := ["self", "other"]) fun _ _ _ _ _ _ us hl => match us, hl with | [_, _], _ => rfl
  have F_bad := fun_mk (st := sBadInit) l_bad c_bad k_bad
  have b_bad := F_bad.binds (ps := ["self", "what", "row"]) fun _ _ _ _ _ _ us hl => match us, hl with | [_, _, _], _ => rfl
  have F_tinit := fun_mk (st := sTextInit) l_tinit c_tinit k_tinit
  have b_tinit := F_tinit.binds (ps := ["self", "line", "word"]) fun _ _ _ _ _ _ us hl => match us, hl with | [_, _, _], _ => rfl
  have F_linesOf := fun_mk (st := sLinesOf) l_linesOf c_linesOf k_linesOf
  have b_linesOf := F_linesOf.binds (ps := ["text"]) fun _ _ _ _ _ _ us hl => match us, hl with | [_], _ => rfl
  have F_isNumeral := fun_mk (st := sIsNumeral) l_isNumeral c_isNumeral k_isNumeral
  have b_isNumeral := F_isNumeral.binds (ps := ["word"]) fun _ _ _ _ _ _ us hl => match us, hl with | [_], _ => rfl
  have F_rinit := fun_mk (st := sRInit) l_rinit c_rinit k_rinit
  have b_rinit := F_rinit.binds (ps := ["self", "rows", "line"]) fun _ _ _ _ _ _ us hl => match us, hl with | [_, _, _], _ => rfl
  have F_refuse := fun_mk (st := sRefuse) l_refuse c_refuse k_refuse
  have b_refuse := F_refuse.binds (ps := ["self"]) fun _ _ _ _ _ _ us hl => match us, hl with | [_], _ => rfl
  have F_take := fun_mk (st := sTake) l_take c_take k_take
  have b_take := F_take.binds (ps := ["self", "is_right"]) fun _ _ _ _ _ _ us hl => match us, hl with | [_, _], _ => rfl
  have F_need := fun_mk (st := sNeed) l_need c_need k_need
  have b_need := F_need.binds (ps := ["self", "some"]) fun _ _ _ _ _ _ us hl => match us, hl with | [_, _], _ => rfl
  have F_needEnd := fun_mk (st := sNeedEnd) l_needEnd c_needEnd k_needEnd
  have b_needEnd := F_needEnd.binds (ps := ["self"]) fun _ _ _ _ _ _ us hl => match us, hl with | [_], _ => rfl
  have F_planText := fun_mk (st := sPlanText) l_planText c_planText k_planText
  have b_planText := F_planText.binds (ps := ["plan"]) fun _ _ _ _ _ _ us hl => match us, hl with | [_], _ => rfl
  have F_readRow := fun_mk (st := sReadRow) l_readRow c_readRow k_readRow
  have b_readRow := F_readRow.binds (ps := ["reader", "met"]) fun _ _ _ _ _ _ us hl => match us, hl with | [_, _], _ => rfl
  have F_planOf := fun_mk (st := sPlanOf) l_planOf c_planOf k_planOf
  have b_planOf := F_planOf.binds (ps := ["text"]) fun _ _ _ _ _ _ us hl => match us, hl with | [_], _ => rfl
  have F_pen := fun_mk (st := sPen) l_pen c_pen k_pen
  have b_pen := F_pen.binds (ps := ["script"]) fun _ _ _ _ _ _ us hl => match us, hl with | [_], _ => rfl
  have F_draw := fun_mk (st := sDraw) l_draw c_draw k_draw
  have b_draw := F_draw.binds (ps := ["pen", "many"]) fun _ _ _ _ _ _ us hl => match us, hl with | [_, _], _ => rfl
  have F_pick := fun_mk (st := sPick) l_pick c_pick k_pick
  have b_pick := F_pick.binds (ps := ["pen", "some"]) fun _ _ _ _ _ _ us hl => match us, hl with | [_, _], _ => rfl
  have F_shuf := fun_mk (st := sShuf) l_shuf c_shuf k_shuf
  have b_shuf := F_shuf.binds (ps := ["pen", "some"]) fun _ _ _ _ _ _ us hl => match us, hl with | [_, _], _ => rfl
  have F_name := fun_mk (st := sName) l_name c_name k_name
  have b_name := F_name.binds (ps := ["pen", "index"]) fun _ _ _ _ _ _ us hl => match us, hl with | [_, _], _ => rfl
  have F_names := fun_mk (st := sNames) l_names c_names k_names
  have b_names := F_names.binds (ps := ["pen", "many"]) fun _ _ _ _ _ _ us hl => match us, hl with | [_, _], _ => rfl
  have F_isNm := fun_mk (st := sIsNm) l_isNm c_isNm k_isNm
  have b_isNm := F_isNm.binds (ps := ["value"]) fun _ _ _ _ _ _ us hl => match us, hl with | [_], _ => rfl
  have F_planRows := fun_mk (st := sPlanRows) l_planRows c_planRows k_planRows
  have b_planRows := F_planRows.binds (ps := ["plan"]) fun _ _ _ _ _ _ us hl => match us, hl with | [_], _ => rfl
  have F_line := fun_mk (st := sLine) l_line c_line k_line
  have b_line := F_line.binds (ps := ["row"]) fun _ _ _ _ _ _ us hl => match us, hl with | [_], _ => rfl
  have F_isNum2 := fun_mk (st := sNumeral2) l_isNum2 c_isNum2 k_isNum2
  have b_isNum2 := F_isNum2.binds (ps := ["word"]) fun _ _ _ _ _ _ us hl => match us, hl with | [_], _ => rfl
  have F_wrong := fun_mk (st := sWrong) l_wrong c_wrong k_wrong
  have b_wrong := F_wrong.binds (ps := ["words", "met"]) fun _ _ _ _ _ _ us hl => match us, hl with | [_, _], _ => rfl
  have F_due := fun_mk (st := sDue) l_due c_due k_due
  have b_due := F_due.binds (ps := ["text"]) fun _ _ _ _ _ _ us hl => match us, hl with | [_], _ => rfl
  have F_spoilt := fun_mk (st := sSpoilt) l_spoilt c_spoilt k_spoilt
  have b_spoilt := F_spoilt.binds (ps := ["pen", "text"]) fun _ _ _ _ _ _ us hl => match us, hl with | [_, _], _ => rfl
  have F_why := fun_mk (st := sWhy) l_why c_why k_why
  have b_why := F_why.binds (ps := ["text"]) fun _ _ _ _ _ _ us hl => match us, hl with | [_], _ => rfl
  have F_law := fun_mk (st := sLaw) l_law c_law k_law
  have b_law := F_law.binds (ps := ["script"]) fun _ _ _ _ _ _ us hl => match us, hl with | [_], _ => rfl
  have cl_C : Cls K C := ⟨pg_C, hd_C, po_C, sa_C⟩
  have h_C : mg "Plan" = some (.ref C) := PySem.W.mg_of X G a_C
  have cl_CR : Cls K CR := ⟨pg_CR, hd_CR, po_CR, sa_CR⟩
  have h_CR : mg "Reader" = some (.ref CR) := PySem.W.mg_of X G a_CR
  have ox_CB : OexC K CB := ⟨⟨nmCB, qBCB, NBCB, bsCB, bmCB, snCB, subCB, abCB, colCB, ddCB, m0CB, m1CB, m2CB, m3CB, m5CB, xL_CB, vB_CB⟩, sa_CB, eB_CB, tB_CB, kB_CB⟩
  have ox_CT : OexC K CT := ⟨⟨nmCT, qBCT, NBCT, bsCT, bmCT, snCT, subCT, abCT, colCT, ddCT, m0CT, m1CT, m2CT, m3CT, m5CT, xL_CT, vB_CT⟩, sa_CT, eB_CT, tB_CT, kB_CT⟩
  refine ⟨PySem.W.fnOf "law" "law" (defArgs sLaw) (defBody sLaw) (defScope sLaw) .none kV_law dc_law pm_law an_law cd_law ct_law, fun s v => .of_eq rfl, fun base _ _ tb => ?_⟩
  have F_whole : FunD K "is_whole" "is_whole" (defArgs sIsWhole) (defBody sIsWhole) (defScope sIsWhole) [.non] [] f_whole _ := ⟨⟨_, _, _, _, _, _, _, _, _, _, rfl, l_whole, c_whole, .inr ⟨by simp, T_whole, _, [Value.none], _, rfl, d_whole, rfl, .cons rfl .nil⟩, .inl rfl⟩, k_whole⟩
  obtain ⟨d3, r3, b3⟩ := F_whole.binds1 (ps := ["value", "least", "most"]) 3 1 (by simp) rfl fun T kV doc pm an cdv ct us its h1 h2 => match us, its, h1, h2 with | [_, _, _], [_], _, _ => ⟨_, rfl, rfl⟩
  have F_nname : FunD K "need_name" "Reader.need_name" (defArgs sNeedName) (defBody sNeedName) (defScope sNeedName) [.ref e_nname] [] f_nname _ := ⟨⟨_, _, _, _, _, _, _, _, _, _, rfl, l_nname, c_nname, .inr ⟨by simp, T_nname, _, [Value.ref e_nname], _, rfl, d_nname, rfl, .cons rfl .nil⟩, .inl rfl⟩, k_nname⟩
  obtain ⟨dn, rn, bn⟩ := F_nname.binds1 (ps := ["self", "taken"]) 1 0 (by simp) rfl fun T kV doc pm an cdv ct us its h1 h2 => match us, its, h1, h2 with | [_], [_], _, _ => ⟨_, rfl, rfl⟩
  have F_nnum : FunD K "need_number" "Reader.need_number" (defArgs sNeedNum) (defBody sNeedNum) (defScope sNeedNum) [.non] [] f_nnum _ := ⟨⟨_, _, _, _, _, _, _, _, _, _, rfl, l_nnum, c_nnum, .inr ⟨by simp, T_nnum, _, [Value.none], _, rfl, d_nnum, rfl, .cons rfl .nil⟩, .inl rfl⟩, k_nnum⟩
  obtain ⟨dm, rm, bm⟩ := F_nnum.binds1 (ps := ["self", "least", "most"]) 2 0 (by simp) rfl fun T kV doc pm an cdv ct us its h1 h2 => match us, its, h1, h2 with | [_, _], [_], _, _ => ⟨_, rfl, rfl⟩
  have hM : mg "MOST_NUMBER" = some (.int MOST tM) := by
    rw [← most_is]
    exact PySem.W.mg_of X G aM
  have be : mg "enumerate" = none := PySem.W.mg_none_of X G z_enumerate
  have tb1 := tb (c1, t1) (by simp)
  have tb2 := tb (c2, t2) (by simp)
  have tb3 := tb (c3, t3) (by simp)
  have hnd : t1 ≠ t2 ∧ t1 ≠ t3 ∧ t2 ≠ t3 := by simpa using nd3
  have g_isName : GFn l.prog w K mg base 1 "is_name" [] (spName) := ⟨⟨f_isName, _, ["value"], [], [], ok_isName F_isName b, PySem.W.mg_of X G a_isName, k_isName, b_isName, .nil, fun _ => .nil⟩⟩
  have g_w3 : GFn l.prog w K mg base 1 "is_whole" [] spWhole := ⟨⟨f_whole, _, ["value", "least", "most"], d3, [], ok_isWhole F_whole b, PySem.W.mg_of X G a_whole, k_whole, b3, r3, fun _ => .nil⟩⟩
  have g_isListed : GFn l.prog w K mg base 1 "is_listed" [] (spListed) := ⟨⟨f_isListed, _, ["value"], [], [], ok_isListed F_isListed b, PySem.W.mg_of X G a_isListed, k_isListed, b_isListed, .nil, fun _ => .nil⟩⟩
  have g_isRow : GFn l.prog w K mg base 3 "is_plan_row" [] (spRow) := ⟨⟨f_isRow, _, ["value"], [], [], ok_isRow F_isRow b g_isName g_w3 hM, PySem.W.mg_of X G a_isRow, k_isRow, b_isRow, .nil, fun _ => .nil⟩⟩
  have g_CB : GXc l.prog w K mg base 1 "BadRow" CB ["what", "row"] := ⟨PySem.W.mg_of X G a_CB, ox_CB, ⟨ga_CB, gg_CB, eB_CB, hB_CB⟩, fun f hf => by
    simp only [List.mem_cons, List.not_mem_nil, or_false] at hf
    rcases hf with rfl | rfl
    · exact n_CB_what
    · exact n_CB_row, f_bad, _, ["self", "what", "row"], a_bad, tI_CB, ok_bad F_bad ox_CB n_CB_what n_CB_row, b_bad⟩
  have g_CT : GXc l.prog w K mg base 1 "BadText" CT ["line", "word"] := ⟨PySem.W.mg_of X G a_CT, ox_CT, ⟨ga_CT, gg_CT, eB_CT, hB_CT⟩, fun f hf => by
    simp only [List.mem_cons, List.not_mem_nil, or_false] at hf
    rcases hf with rfl | rfl
    · exact n_CT_line
    · exact n_CT_word, f_tinit, _, ["self", "line", "word"], a_tinit, tI_CT, ok_tinit F_tinit ox_CT n_CT_line n_CT_word, b_tinit⟩
  have g_C : GMk l.prog w K mg base 5 "Plan" C [] (spInit C CB) := ⟨h_C, f_init, _, ["self", "rows"], [], [], ok_init F_init b g_isListed g_isRow g_CB cl_C n_C_rows n_C__told, ⟨mk_C, a_init, i_init, kc_C⟩, b_init, .nil, fun _ => .nil⟩
  have g_eq : GMe l.prog w K mg base 1 C "__eq__" [] (spEq C) := ⟨cl_C, f_eq, _, ["self", "other"], [], [], ok_eq F_eq b cl_C n_C_rows h_C q1 ⟨cl_C, icA, icB, icC, icD⟩ q2, ⟨a_eq, i_eq, k_eq⟩, b_eq, .nil, fun _ => .nil⟩
  have g_linesOf : GFn l.prog w K mg base 3 "lines_of" [] (spRowsOf CT) := ⟨⟨f_linesOf, _, ["text"], [], [], ok_linesOf F_linesOf b g_CT, PySem.W.mg_of X G a_linesOf, k_linesOf, b_linesOf, .nil, fun _ => .nil⟩⟩
  have g_isNumeral : GFn l.prog w K mg base 1 "is_numeral" [] (spNumeral) := ⟨⟨f_isNumeral, _, ["word"], [], [], ok_isNumeral F_isNumeral b (PySem.W.mg_of X G aF) (PySem.W.mg_of X G aL), PySem.W.mg_of X G a_isNumeral, k_isNumeral, b_isNumeral, .nil, fun _ => .nil⟩⟩
  have g_CR : GMk l.prog w K mg base 1 "Reader" CR [] (spRInit CR) := ⟨h_CR, f_rinit, _, ["self", "rows", "line"], [], [], ok_rinit F_rinit cl_CR n_CR_words n_CR_line n_CR_spot, ⟨mk_CR, a_rinit, i_rinit, kc_CR⟩, b_rinit, .nil, fun _ => .nil⟩
  have g_refuse : GMe l.prog w K mg base 3 CR "refuse" [] (spRefuse CR CT) := ⟨cl_CR, f_refuse, _, ["self"], [], [], ok_refuse F_refuse g_CT cl_CR n_CR_line n_CR_spot, ⟨a_refuse, i_refuse, k_refuse⟩, b_refuse, .nil, fun _ => .nil⟩
  have g_needEnd : GMe l.prog w K mg base 5 CR "need_end" [] (spNeedEnd CR CT) := ⟨cl_CR, f_needEnd, _, ["self"], [], [], ok_needEnd F_needEnd b g_refuse cl_CR n_CR_words n_CR_spot, ⟨a_needEnd, i_needEnd, k_needEnd⟩, b_needEnd, .nil, fun _ => .nil⟩
  have g_take : GMeL l.prog w K mg base 4 CR "take" (tTake CR CT) := ok_take F_take ⟨a_take, i_take, k_take⟩ b_take b g_refuse cl_CR n_CR_words n_CR_spot
  have g_need : GMe l.prog w K mg base 6 CR "need" [] (spNeed CR CT t1) := ⟨cl_CR, f_need, _, ["self", "some"], [], [], ok_need F_need r_need tb1 g_take, ⟨a_need, i_need, k_need⟩, b_need, .nil, fun _ => .nil⟩
  have g_nname : GMe l.prog w K mg base 6 CR "need_name" [.tup []] (spNeedName CR CT t2) := ⟨cl_CR, f_nname, _, ["self", "taken"], dn, [.ref e_nname], ok_needName F_nname r_nname tb2 g_take g_isName, ⟨a_nname, i_nname, k_nname⟩, bn, rn, fun _ => .cons (.tup (.inr ⟨rfl, .inr ⟨_, _, _, e_nn, rfl, rfl, by decide, .nil⟩⟩) .nil) .nil⟩
  have g_nnum : GMe l.prog w K mg base 6 CR "need_number" [.non] (spNeedNum CR CT t3) := ⟨cl_CR, f_nnum, _, ["self", "least", "most"], dm, [.non], ok_needNum F_nnum r_nnum tb3 b g_take g_isNumeral, ⟨a_nnum, i_nnum, k_nnum⟩, bm, rm, fun _ => .cons .non .nil⟩
  have g_readRow : GFn l.prog w K mg base 8 "read_row" [] (spReadRow CR CT ⟨t1, t2, t3⟩) := ⟨⟨f_readRow, _, ["reader", "met"], [], [], ok_readRow F_readRow g_refuse g_need g_nname g_nnum g_needEnd cl_CR n_CR_spot, PySem.W.mg_of X G a_readRow, k_readRow, b_readRow, .nil, fun _ => .nil⟩⟩
  have g_planOf : GFn l.prog w K mg base 10 "plan_of" [] (spPlanOf C CT ⟨t1, t2, t3⟩) := ⟨⟨f_planOf, _, ["text"], [], [], ok_planOf F_planOf b g_linesOf g_CR g_readRow g_C, PySem.W.mg_of X G a_planOf, k_planOf, b_planOf, .nil, fun _ => .nil⟩⟩
  have g_planText : GFn l.prog w K mg base 1 "plan_text" [] (spPlanText C) := ⟨⟨f_planText, _, ["plan"], [], [], ok_planText F_planText cl_C n_C_rows, PySem.W.mg_of X G a_planText, k_planText, b_planText, .nil, fun _ => .nil⟩⟩
  have g_draw : GFn l.prog w K mg base 1 "_law_draw" [] (spDraw) := ⟨⟨f_draw, _, ["pen", "many"], [], [], ok_draw F_draw b, PySem.W.mg_of X G a_draw, k_draw, b_draw, .nil, fun _ => .nil⟩⟩
  have g_pick : GFn l.prog w K mg base 2 "_law_pick" [] (spPick) := ⟨⟨f_pick, _, ["pen", "some"], [], [], ok_pick F_pick b g_draw, PySem.W.mg_of X G a_pick, k_pick, b_pick, .nil, fun _ => .nil⟩⟩
  have g_pickS : GFn l.prog w K mg base 2 "_law_pick" [] (spPickS) := ⟨⟨f_pick, _, ["pen", "some"], [], [], ok_pickS F_pick b g_draw, PySem.W.mg_of X G a_pick, k_pick, b_pick, .nil, fun _ => .nil⟩⟩
  have g_pickC : GFn l.prog w K mg base 2 "_law_pick" [] (spPickC) := ⟨⟨f_pick, _, ["pen", "some"], [], [], ok_pickC F_pick b g_draw, PySem.W.mg_of X G a_pick, k_pick, b_pick, .nil, fun _ => .nil⟩⟩
  have g_shuf : GFn l.prog w K mg base 2 "_law_shuffled" [] (spShuf) := ⟨⟨f_shuf, _, ["pen", "some"], [], [], ok_shuf F_shuf b g_draw, PySem.W.mg_of X G a_shuf, k_shuf, b_shuf, .nil, fun _ => .nil⟩⟩
  have g_name : GFn l.prog w K mg base 2 "_law_name" [] (spName') := ⟨⟨f_name, _, ["pen", "index"], [], [], ok_name F_name b g_draw, PySem.W.mg_of X G a_name, k_name, b_name, .nil, fun _ => .nil⟩⟩
  have g_names : GFn l.prog w K mg base 3 "_law_names" [] (spNames) := ⟨⟨f_names, _, ["pen", "many"], [], [], ok_names F_names b g_shuf g_name, PySem.W.mg_of X G a_names, k_names, b_names, .nil, fun _ => .nil⟩⟩
  have g_isNm : GFn l.prog w K mg base 1 "_law_is_name" [] (spName) := ⟨⟨f_isNm, _, ["value"], [], [], ok_isNm F_isNm b, PySem.W.mg_of X G a_isNm, k_isNm, b_isNm, .nil, fun _ => .nil⟩⟩
  have g_planRows : GFn l.prog w K mg base 1 "_law_plan_rows" [] (spPlanRows) := ⟨⟨f_planRows, _, ["plan"], [], [], ok_planRows F_planRows b, PySem.W.mg_of X G a_planRows, k_planRows, b_planRows, .nil, fun _ => .nil⟩⟩
  have g_line : GFn l.prog w K mg base 1 "_law_line" [] (spLine) := ⟨⟨f_line, _, ["row"], [], [], ok_line F_line b, PySem.W.mg_of X G a_line, k_line, b_line, .nil, fun _ => .nil⟩⟩
  have g_isNum2 : GFn l.prog w K mg base 1 "_law_is_numeral" [] (spNumeral) := ⟨⟨f_isNum2, _, ["word"], [], [], ok_numeral2 F_isNum2 b, PySem.W.mg_of X G a_isNum2, k_isNum2, b_isNum2, .nil, fun _ => .nil⟩⟩
  have g_wrong : GFn l.prog w K mg base 2 "_law_wrong_word" [] (spWrong) := ⟨⟨f_wrong, _, ["words", "met"], [], [], ok_wrong F_wrong b be g_isNm g_isNum2, PySem.W.mg_of X G a_wrong, k_wrong, b_wrong, .nil, fun _ => .nil⟩⟩
  have g_due : GFn l.prog w K mg base 3 "_law_due" [] (spDue) := ⟨⟨f_due, _, ["text"], [], [], ok_due F_due b be g_wrong, PySem.W.mg_of X G a_due, k_due, b_due, .nil, fun _ => .nil⟩⟩
  have g_spoilt : GFn l.prog w K mg base 3 "_law_spoilt" [] (spSpoilt) := ⟨⟨f_spoilt, _, ["pen", "text"], [], [], ok_spoilt F_spoilt b g_draw g_pick g_pickS g_pickC, PySem.W.mg_of X G a_spoilt, k_spoilt, b_spoilt, .nil, fun _ => .nil⟩⟩
  have g_why : GFn l.prog w K mg base 11 "_law_why" [] (spWhy C CT ⟨t1, t2, t3⟩) := ⟨⟨f_why, _, ["text"], [], [], ok_why F_why g_planOf g_CT (exm_self eB_CT iB_CT tB_CT sB_CT), PySem.W.mg_of X G a_why, k_why, b_why, .nil, fun _ => .nil⟩⟩
  exact ok_law F_law b ⟨g_draw, g_pick, g_shuf, g_names, g_planRows, g_line, g_planOf, g_C, g_planText, g_spoilt, g_due, g_why, g_eq, neC, icD, cl_C, n_C_rows⟩ hnd (ok_pen F_pen b) (PySem.W.mg_of X G a_pen) k_pen b_pen
end K28
open PySem PySem.W PyProof.Rows in
set_option maxRecDepth 100000 in
set_option maxHeartbeats 0 in
theorem PySem.Challenge.cw_doneornot_k28_whole_texts_of_plans_holds : PySem.Challenge.rw_doneornot_k28_whole_texts_of_plans.Holds := by
  w_on; o_law; k_head; (case hw => w_witness2)
  k_fill
  refine K28.walk_ofMK (l := PySem.Challenge.rw_doneornot_k28_whole_texts_of_plans) (n := 63) (k := 14) (x := "script") rfl (by decide) rfl ⟨rfl, by decide, by decide⟩ (fun w h Y => PySem.W.km_in_of Y) ?k1 ?n1 ?h1 ?k2 ?n2 ?h2 ?k3 ?n3 ?h3 ?F
  case k1 => intro w; kernel_rfl
  case n1 => intro w; kernel_rfl
  case h1 => exact fun w h Y => PySem.W.km_tabs_of Y _ (K28.mem_of (by kernel_rfl))
  case k2 => intro w; kernel_rfl
  case n2 => intro w; kernel_rfl
  case h2 => exact fun w h Y => PySem.W.km_tabs_of Y _ (K28.mem_of (by kernel_rfl))
  case k3 => intro w; kernel_rfl
  case n3 => intro w; kernel_rfl
  case h3 => exact fun w h Y => PySem.W.km_tabs_of Y _ (K28.mem_of (by kernel_rfl))
  case F =>
    intro w mg fa h KX G hmg
    refine' K28.all_mk (l := PySem.Challenge.rw_doneornot_k28_whole_texts_of_plans) (c1 := K28.cN _ "need") (c2 := K28.cN _ "need_name") (c3 := K28.cN _ "need_number") (t1 := K28.tN _ "need") (t2 := K28.tN _ "need_name") (t3 := K28.tN _ "need_number") KX G hmg ?a_C ?pg_C ?hd_C ?po_C ?sa_C ?mk_C ?kc_C ?n_C_rows ?n_C__told ?a_CR ?pg_CR ?hd_CR ?po_CR ?sa_CR ?mk_CR ?kc_CR ?n_CR_words ?n_CR_line ?n_CR_spot ?a_CB ?xL_CB ?vB_CB ?sa_CB ?ga_CB ?gg_CB ?n_CB_what ?n_CB_row ?kB_CB ?eB_CB ?tB_CB ?hB_CB ?iB_CB ?sB_CB ?a_CT ?xL_CT ?vB_CT ?sa_CT ?ga_CT ?gg_CT ?n_CT_line ?n_CT_word ?kB_CT ?eB_CT ?tB_CT ?hB_CT ?iB_CT ?sB_CT ?a_isName ?l_isName ?c_isName ?k_isName ?a_isListed ?l_isListed ?c_isListed ?k_isListed ?a_isRow ?l_isRow ?c_isRow ?k_isRow ?a_init ?i_init ?l_init ?c_init ?k_init ?a_eq ?i_eq ?l_eq ?c_eq ?k_eq ?a_bad ?i_bad ?l_bad ?c_bad ?k_bad ?a_tinit ?i_tinit ?l_tinit ?c_tinit ?k_tinit ?a_linesOf ?l_linesOf ?c_linesOf ?k_linesOf ?a_isNumeral ?l_isNumeral ?c_isNumeral ?k_isNumeral ?a_rinit ?i_rinit ?l_rinit ?c_rinit ?k_rinit ?a_refuse ?i_refuse ?l_refuse ?c_refuse ?k_refuse ?a_take ?i_take ?l_take ?c_take ?k_take ?a_need ?i_need ?l_need ?c_need ?k_need ?a_nname ?i_nname ?l_nname ?c_nname ?k_nname ?a_nnum ?i_nnum ?l_nnum ?c_nnum ?k_nnum ?a_needEnd ?i_needEnd ?l_needEnd ?c_needEnd ?k_needEnd ?a_planText ?l_planText ?c_planText ?k_planText ?a_readRow ?l_readRow ?c_readRow ?k_readRow ?a_planOf ?l_planOf ?c_planOf ?k_planOf ?a_pen ?l_pen ?c_pen ?k_pen ?a_draw ?l_draw ?c_draw ?k_draw ?a_pick ?l_pick ?c_pick ?k_pick ?a_shuf ?l_shuf ?c_shuf ?k_shuf ?a_name ?l_name ?c_name ?k_name ?a_names ?l_names ?c_names ?k_names ?a_isNm ?l_isNm ?c_isNm ?k_isNm ?a_planRows ?l_planRows ?c_planRows ?k_planRows ?a_line ?l_line ?c_line ?k_line ?a_isNum2 ?l_isNum2 ?c_isNum2 ?k_isNum2 ?a_wrong ?l_wrong ?c_wrong ?k_wrong ?a_due ?l_due ?c_due ?k_due ?a_spoilt ?l_spoilt ?c_spoilt ?k_spoilt ?a_why ?l_why ?c_why ?k_why ?a_law ?l_law ?c_law ?k_law ?tI_CB ?tI_CT ?r_need ?r_nname ?r_nnum ?a_whole ?l_whole ?c_whole ?k_whole ?d_whole ?d_nname ?e_nn ?d_nnum ?aM ?aF ?aL ?q1 ?q2 ?icA ?icB ?icC ?icD ?neC ?nd3 ?z_isinstance ?z_len ?z_all ?z_any ?z_range ?z_sorted ?z_zip ?z_min ?z_str ?z_int ?z_bool ?z_list ?z_tuple ?z_dict ?z_enumerate
    (case a_C => first | k_is | rfl | decide +kernel)
    (case pg_C => first | k_is | rfl | decide +kernel)
    (case hd_C => first | k_is | rfl | decide +kernel)
    (case po_C => first | k_is | rfl | decide +kernel)
    (case sa_C => first | k_is | rfl | decide +kernel)
    (case mk_C => first | k_is | rfl | decide +kernel)
    (case kc_C => first | k_is | rfl | decide +kernel)
    (case n_C_rows => first | k_is | rfl | decide +kernel)
    (case n_C__told => first | k_is | rfl | decide +kernel)
    (case a_CR => first | k_is | rfl | decide +kernel)
    (case pg_CR => first | k_is | rfl | decide +kernel)
    (case hd_CR => first | k_is | rfl | decide +kernel)
    (case po_CR => first | k_is | rfl | decide +kernel)
    (case sa_CR => first | k_is | rfl | decide +kernel)
    (case mk_CR => first | k_is | rfl | decide +kernel)
    (case kc_CR => first | k_is | rfl | decide +kernel)
    (case n_CR_words => first | k_is | rfl | decide +kernel)
    (case n_CR_line => first | k_is | rfl | decide +kernel)
    (case n_CR_spot => first | k_is | rfl | decide +kernel)
    (case a_CB => first | k_is | rfl | decide +kernel)
    (case xL_CB => first | k_is | rfl | decide +kernel)
    (case vB_CB => first | k_is | rfl | decide +kernel)
    (case sa_CB => first | k_is | rfl | decide +kernel)
    (case ga_CB => first | k_is | rfl | decide +kernel)
    (case gg_CB => first | k_is | rfl | decide +kernel)
    (case n_CB_what => first | k_is | rfl | decide +kernel)
    (case n_CB_row => first | k_is | rfl | decide +kernel)
    (case kB_CB => first | k_is | rfl | decide +kernel)
    (case eB_CB => first | k_is | rfl | decide +kernel)
    (case tB_CB => first | k_is | rfl | decide +kernel)
    (case hB_CB => first | k_is | rfl | decide +kernel)
    (case iB_CB => first | k_is | rfl | decide +kernel)
    (case sB_CB => first | k_is | rfl | decide +kernel)
    (case a_CT => first | k_is | rfl | decide +kernel)
    (case xL_CT => first | k_is | rfl | decide +kernel)
    (case vB_CT => first | k_is | rfl | decide +kernel)
    (case sa_CT => first | k_is | rfl | decide +kernel)
    (case ga_CT => first | k_is | rfl | decide +kernel)
    (case gg_CT => first | k_is | rfl | decide +kernel)
    (case n_CT_line => first | k_is | rfl | decide +kernel)
    (case n_CT_word => first | k_is | rfl | decide +kernel)
    (case kB_CT => first | k_is | rfl | decide +kernel)
    (case eB_CT => first | k_is | rfl | decide +kernel)
    (case tB_CT => first | k_is | rfl | decide +kernel)
    (case hB_CT => first | k_is | rfl | decide +kernel)
    (case iB_CT => first | k_is | rfl | decide +kernel)
    (case sB_CT => first | k_is | rfl | decide +kernel)
    (case a_isName => first | k_is | rfl | decide +kernel)
    (case l_isName => first | k_is | rfl | decide +kernel)
    (case c_isName => first | k_is | rfl | decide +kernel)
    (case k_isName => first | k_is | rfl | decide +kernel)
    (case a_isListed => first | k_is | rfl | decide +kernel)
    (case l_isListed => first | k_is | rfl | decide +kernel)
    (case c_isListed => first | k_is | rfl | decide +kernel)
    (case k_isListed => first | k_is | rfl | decide +kernel)
    (case a_isRow => first | k_is | rfl | decide +kernel)
    (case l_isRow => first | k_is | rfl | decide +kernel)
    (case c_isRow => first | k_is | rfl | decide +kernel)
    (case k_isRow => first | k_is | rfl | decide +kernel)
    (case a_init => first | k_is | rfl | decide +kernel)
    (case i_init => first | k_is | rfl | decide +kernel)
    (case l_init => first | k_is | rfl | decide +kernel)
    (case c_init => first | k_is | rfl | decide +kernel)
    (case k_init => first | k_is | rfl | decide +kernel)
    (case a_eq => first | k_is | rfl | decide +kernel)
    (case i_eq => first | k_is | rfl | decide +kernel)
    (case l_eq => first | k_is | rfl | decide +kernel)
    (case c_eq => first | k_is | rfl | decide +kernel)
    (case k_eq => first | k_is | rfl | decide +kernel)
    (case a_bad => first | k_is | rfl | decide +kernel)
    (case i_bad => first | k_is | rfl | decide +kernel)
    (case l_bad => first | k_is | rfl | decide +kernel)
    (case c_bad => first | k_is | rfl | decide +kernel)
    (case k_bad => first | k_is | rfl | decide +kernel)
    (case a_tinit => first | k_is | rfl | decide +kernel)
    (case i_tinit => first | k_is | rfl | decide +kernel)
    (case l_tinit => first | k_is | rfl | decide +kernel)
    (case c_tinit => first | k_is | rfl | decide +kernel)
    (case k_tinit => first | k_is | rfl | decide +kernel)
    (case a_linesOf => first | k_is | rfl | decide +kernel)
    (case l_linesOf => first | k_is | rfl | decide +kernel)
    (case c_linesOf => first | k_is | rfl | decide +kernel)
    (case k_linesOf => first | k_is | rfl | decide +kernel)
    (case a_isNumeral => first | k_is | rfl | decide +kernel)
    (case l_isNumeral => first | k_is | rfl | decide +kernel)
    (case c_isNumeral => first | k_is | rfl | decide +kernel)
    (case k_isNumeral => first | k_is | rfl | decide +kernel)
    (case a_rinit => first | k_is | rfl | decide +kernel)
    (case i_rinit => first | k_is | rfl | decide +kernel)
    (case l_rinit => first | k_is | rfl | decide +kernel)
    (case c_rinit => first | k_is | rfl | decide +kernel)
    (case k_rinit => first | k_is | rfl | decide +kernel)
    (case a_refuse => first | k_is | rfl | decide +kernel)
    (case i_refuse => first | k_is | rfl | decide +kernel)
    (case l_refuse => first | k_is | rfl | decide +kernel)
    (case c_refuse => first | k_is | rfl | decide +kernel)
    (case k_refuse => first | k_is | rfl | decide +kernel)
    (case a_take => first | k_is | rfl | decide +kernel)
    (case i_take => first | k_is | rfl | decide +kernel)
    (case l_take => first | k_is | rfl | decide +kernel)
    (case c_take => first | k_is | rfl | decide +kernel)
    (case k_take => first | k_is | rfl | decide +kernel)
    (case a_need => first | k_is | rfl | decide +kernel)
    (case i_need => first | k_is | rfl | decide +kernel)
    (case l_need => first | k_is | rfl | decide +kernel)
    (case c_need => first | k_is | rfl | decide +kernel)
    (case k_need => first | k_is | rfl | decide +kernel)
    (case a_nname => first | k_is | rfl | decide +kernel)
    (case i_nname => first | k_is | rfl | decide +kernel)
    (case l_nname => first | k_is | rfl | decide +kernel)
    (case c_nname => first | k_is | rfl | decide +kernel)
    (case k_nname => first | k_is | rfl | decide +kernel)
    (case a_nnum => first | k_is | rfl | decide +kernel)
    (case i_nnum => first | k_is | rfl | decide +kernel)
    (case l_nnum => first | k_is | rfl | decide +kernel)
    (case c_nnum => first | k_is | rfl | decide +kernel)
    (case k_nnum => first | k_is | rfl | decide +kernel)
    (case a_needEnd => first | k_is | rfl | decide +kernel)
    (case i_needEnd => first | k_is | rfl | decide +kernel)
    (case l_needEnd => first | k_is | rfl | decide +kernel)
    (case c_needEnd => first | k_is | rfl | decide +kernel)
    (case k_needEnd => first | k_is | rfl | decide +kernel)
    (case a_planText => first | k_is | rfl | decide +kernel)
    (case l_planText => first | k_is | rfl | decide +kernel)
    (case c_planText => first | k_is | rfl | decide +kernel)
    (case k_planText => first | k_is | rfl | decide +kernel)
    (case a_readRow => first | k_is | rfl | decide +kernel)
    (case l_readRow => first | k_is | rfl | decide +kernel)
    (case c_readRow => first | k_is | rfl | decide +kernel)
    (case k_readRow => first | k_is | rfl | decide +kernel)
    (case a_planOf => first | k_is | rfl | decide +kernel)
    (case l_planOf => first | k_is | rfl | decide +kernel)
    (case c_planOf => first | k_is | rfl | decide +kernel)
    (case k_planOf => first | k_is | rfl | decide +kernel)
    (case a_pen => first | k_is | rfl | decide +kernel)
    (case l_pen => first | k_is | rfl | decide +kernel)
    (case c_pen => first | k_is | rfl | decide +kernel)
    (case k_pen => first | k_is | rfl | decide +kernel)
    (case a_draw => first | k_is | rfl | decide +kernel)
    (case l_draw => first | k_is | rfl | decide +kernel)
    (case c_draw => first | k_is | rfl | decide +kernel)
    (case k_draw => first | k_is | rfl | decide +kernel)
    (case a_pick => first | k_is | rfl | decide +kernel)
    (case l_pick => first | k_is | rfl | decide +kernel)
    (case c_pick => first | k_is | rfl | decide +kernel)
    (case k_pick => first | k_is | rfl | decide +kernel)
    (case a_shuf => first | k_is | rfl | decide +kernel)
    (case l_shuf => first | k_is | rfl | decide +kernel)
    (case c_shuf => first | k_is | rfl | decide +kernel)
    (case k_shuf => first | k_is | rfl | decide +kernel)
    (case a_name => first | k_is | rfl | decide +kernel)
    (case l_name => first | k_is | rfl | decide +kernel)
    (case c_name => first | k_is | rfl | decide +kernel)
    (case k_name => first | k_is | rfl | decide +kernel)
    (case a_names => first | k_is | rfl | decide +kernel)
    (case l_names => first | k_is | rfl | decide +kernel)
    (case c_names => first | k_is | rfl | decide +kernel)
    (case k_names => first | k_is | rfl | decide +kernel)
    (case a_isNm => first | k_is | rfl | decide +kernel)
    (case l_isNm => first | k_is | rfl | decide +kernel)
    (case c_isNm => first | k_is | rfl | decide +kernel)
    (case k_isNm => first | k_is | rfl | decide +kernel)
    (case a_planRows => first | k_is | rfl | decide +kernel)
    (case l_planRows => first | k_is | rfl | decide +kernel)
    (case c_planRows => first | k_is | rfl | decide +kernel)
    (case k_planRows => first | k_is | rfl | decide +kernel)
    (case a_line => first | k_is | rfl | decide +kernel)
    (case l_line => first | k_is | rfl | decide +kernel)
    (case c_line => first | k_is | rfl | decide +kernel)
    (case k_line => first | k_is | rfl | decide +kernel)
    (case a_isNum2 => first | k_is | rfl | decide +kernel)
    (case l_isNum2 => first | k_is | rfl | decide +kernel)
    (case c_isNum2 => first | k_is | rfl | decide +kernel)
    (case k_isNum2 => first | k_is | rfl | decide +kernel)
    (case a_wrong => first | k_is | rfl | decide +kernel)
    (case l_wrong => first | k_is | rfl | decide +kernel)
    (case c_wrong => first | k_is | rfl | decide +kernel)
    (case k_wrong => first | k_is | rfl | decide +kernel)
    (case a_due => first | k_is | rfl | decide +kernel)
    (case l_due => first | k_is | rfl | decide +kernel)
    (case c_due => first | k_is | rfl | decide +kernel)
    (case k_due => first | k_is | rfl | decide +kernel)
    (case a_spoilt => first | k_is | rfl | decide +kernel)
    (case l_spoilt => first | k_is | rfl | decide +kernel)
    (case c_spoilt => first | k_is | rfl | decide +kernel)
    (case k_spoilt => first | k_is | rfl | decide +kernel)
    (case a_why => first | k_is | rfl | decide +kernel)
    (case l_why => first | k_is | rfl | decide +kernel)
    (case c_why => first | k_is | rfl | decide +kernel)
    (case k_why => first | k_is | rfl | decide +kernel)
    (case a_law => first | k_is | rfl | decide +kernel)
    (case l_law => first | k_is | rfl | decide +kernel)
    (case c_law => first | k_is | rfl | decide +kernel)
    (case k_law => first | k_is | rfl | decide +kernel)
    (case tI_CB => first | k_is | rfl | decide +kernel)
    (case tI_CT => first | k_is | rfl | decide +kernel)
    (case r_need => kernel_rfl)
    (case r_nname => kernel_rfl)
    (case r_nnum => kernel_rfl)
    (case a_whole => first | k_is | rfl | decide +kernel)
    (case l_whole => first | k_is | rfl | decide +kernel)
    (case c_whole => first | k_is | rfl | decide +kernel)
    (case k_whole => first | k_is | rfl | decide +kernel)
    (case d_whole => first | k_is | rfl | decide +kernel)
    (case d_nname => first | k_is | rfl | decide +kernel)
    (case e_nn => first | k_is | rfl | decide +kernel)
    (case d_nnum => first | k_is | rfl | decide +kernel)
    (case aM => first | k_is | rfl | decide +kernel)
    (case aF => first | k_is | rfl | decide +kernel)
    (case aL => first | k_is | rfl | decide +kernel)
    (case q1 => first | k_is | rfl | decide +kernel)
    (case q2 => first | k_is | rfl | decide +kernel)
    (case icA => first | k_is | rfl | decide +kernel)
    (case icB => first | k_is | rfl | decide +kernel)
    (case icC => first | k_is | rfl | decide +kernel)
    (case icD => first | k_is | rfl | decide +kernel)
    (case neC => first | k_is | rfl | decide +kernel)
    (case nd3 => kernel_rfl)
    (case z_isinstance => first | k_is | rfl | decide +kernel)
    (case z_len => first | k_is | rfl | decide +kernel)
    (case z_all => first | k_is | rfl | decide +kernel)
    (case z_any => first | k_is | rfl | decide +kernel)
    (case z_range => first | k_is | rfl | decide +kernel)
    (case z_sorted => first | k_is | rfl | decide +kernel)
    (case z_zip => first | k_is | rfl | decide +kernel)
    (case z_min => first | k_is | rfl | decide +kernel)
    (case z_str => first | k_is | rfl | decide +kernel)
    (case z_int => first | k_is | rfl | decide +kernel)
    (case z_bool => first | k_is | rfl | decide +kernel)
    (case z_list => first | k_is | rfl | decide +kernel)
    (case z_tuple => first | k_is | rfl | decide +kernel)
    (case z_dict => first | k_is | rfl | decide +kernel)
    (case z_enumerate => first | k_is | rfl | decide +kernel)
end
