import PyProof.Rows.All
import Wide.All
import OpenK.AllK
import Wide.FinOn
import HandS.ForMost
import HandS.Walk
import HandS.Evl
import HandS.Defaults
import HandS.Dict
import HandS.TupAny
import HandS.Deep
import HandS.IsInst
import HandS.SortOrd
import HandS.SortInts
import KE.GoesMore
import KE.GoesEnum
import PyProof.StrBlock2
import PyProof.RulesMatch
import HandS.Conv
import HandS.Style
import HandS.HeadHook1
import HandS.HeadHook2
import HandS.HeadHook3
import HandS.TupLen
import HandS.Words
import HandS.DictTup
import HandS.DictComp
import HandS.WideBits
import HandS.Iter
import HandS.TupSets
import HandS.Exc
import HandS.ExcSuper
import HandS.ForSpec
import HandS.ExcOwn
import HandS.OwnEq
import KE.KStateDown
import HandS.Head0
import HandS.Head1
import HandS.Head2
import HandS.HeadEnd
import HandS.HeadHook4
import PySem.Challenge.RW_newsbooks_k37_whole_made_of_orders
set_option Elab.async false
set_option linter.all false
set_option maxRecDepth 100000
set_option maxHeartbeats 4000000
/-! K37A: data, the known part of the heap, environments, judgements on readings. -/
namespace K37
open PySem L2
open Evl (Ex)

/-! ### data -/
inductive Dt where
  | non
  | bl (b : Bool)
  | int (i : Int)
  | str (x : Str)
  | tup (ds : List Dt)
  | lst (ds : List Dt)
  | told (C : Addr) (n : Int) (c : Dt)
  | tbl (C : Addr) (n : Int) (c : Dt) (ps : List (List Int × List Int))

mutual
def Has : Dt → V → Hp → Prop
  | .non, v, _ => v = .non
  | .bl b, v, _ => v = .bl b
  | .int i, v, _ => v = .int i
  | .str x, v, _ => v = .str x
  | .tup ds, v, H => ∃ a xs, v = .ref a ∧ H a = some (.tup xs) ∧ HasL ds xs H
  | .lst ds, v, H => ∃ a xs, v = .ref a ∧ H a = some (.lst xs) ∧ HasL ds xs H
  | .told C n c, v, H => ∃ a dx fs x, v = .ref a ∧ H a = some (.ins C dx fs) ∧ fs.lookup ("worlds" : Str) = some (.int n) ∧ fs.lookup ("cases" : Str) = some x ∧ Has c x H
  | .tbl C n c ps, v, H => ∃ a dx fs x b ks, v = .ref a ∧ H a = some (.ins C dx fs) ∧ fs.lookup ("worlds" : Str) = some (.int n) ∧ fs.lookup ("pairs" : Str) = some x ∧ Has c x H ∧ fs.lookup ("_told" : Str) = some (.ref b) ∧ H b = some (.dT ks) ∧
      (∀ p ∈ ps, ∃ t, valV ks (p.1.map Sum.inl) = some (.ref t) ∧ H t = some (.tup (p.2.map V.int))) ∧ fs.lookup ("answer" : Str) = none
def HasL : List Dt → List V → Hp → Prop
  | [], xs, _ => xs = []
  | d :: ds, xs, H => ∃ x r, xs = x :: r ∧ Has d x H ∧ HasL ds r H
end

mutual
theorem Has.mono : ∀ {d : Dt} {v : V} {H H' : Hp}, Has d v H → Ex H H' → Has d v H'
  | .non, _, _, _, h, _ => h
  | .bl _, _, _, _, h, _ => h
  | .int _, _, _, _, h, _ => h
  | .str _, _, _, _, h, _ => h
  | .tup ds, _, _, _, h, e => by
    obtain ⟨a, xs, h1, h2, h3⟩ := h
    exact ⟨a, xs, h1, e _ _ h2, HasL.mono h3 e⟩
  | .lst ds, _, _, _, h, e => by
    obtain ⟨a, xs, h1, h2, h3⟩ := h
    exact ⟨a, xs, h1, e _ _ h2, HasL.mono h3 e⟩
  | .told C n c, _, _, _, h, e => by
    obtain ⟨a, dx, fs, x, h1, h2, h3, h4, h5⟩ := h
    exact ⟨a, dx, fs, x, h1, e _ _ h2, h3, h4, Has.mono h5 e⟩
  | .tbl C n c ps, _, _, _, h, e => by
    obtain ⟨a, dx, fs, x, b, ks, h1, h2, h3, h4, h5, h6, h7, h8, h9⟩ := h
    exact ⟨a, dx, fs, x, b, ks, h1, e _ _ h2, h3, h4, Has.mono h5 e, h6, e _ _ h7, fun p hp => by
      obtain ⟨t, q1, q2⟩ := h8 p hp
      exact ⟨t, q1, e _ _ q2⟩, h9⟩
theorem HasL.mono : ∀ {ds : List Dt} {xs : List V} {H H' : Hp}, HasL ds xs H → Ex H H' → HasL ds xs H'
  | [], _, _, _, h, _ => h
  | d :: ds, _, _, _, h, e => by
    obtain ⟨x, r, h1, h2, h3⟩ := h
    exact ⟨x, r, h1, Has.mono h2 e, HasL.mono h3 e⟩
end
theorem HasL.length : ∀ {ds : List Dt} {xs : List V} {H : Hp}, HasL ds xs H → xs.length = ds.length
  | [], _, _, h => by
    cases (show _ = [] from h)
    rfl
  | d :: ds, _, _, h => by
    obtain ⟨x, r, rfl, _, h3⟩ := h
    rw [List.length_cons, List.length_cons, HasL.length h3]
theorem HasL.get : ∀ {ds : List Dt} {xs : List V} {H : Hp} {i : Nat} {x : V}, HasL ds xs H → xs[i]? = some x → ∃ d, ds[i]? = some d ∧ Has d x H
  | [], _, _, i, x, h, e => by
    cases (show _ = [] from h)
    cases e
  | d :: ds, _, _, 0, x, h, e => by
    obtain ⟨y, r, rfl, h2, h3⟩ := h
    cases e
    exact ⟨d, rfl, h2⟩
  | d :: ds, _, _, i + 1, x, h, e => by
    obtain ⟨y, r, rfl, h2, h3⟩ := h
    exact HasL.get (ds := ds) (xs := r) (i := i) h3 e
theorem HasL.get' : ∀ {ds : List Dt} {xs : List V} {H : Hp} {i : Nat} {d : Dt}, HasL ds xs H → ds[i]? = some d → ∃ x, xs[i]? = some x ∧ Has d x H
  | [], _, _, i, d, h, e => by cases e
  | d :: ds, _, _, 0, d', h, e => by
    obtain ⟨y, r, rfl, h2, h3⟩ := h
    cases e
    exact ⟨y, rfl, h2⟩
  | d :: ds, _, _, i + 1, d', h, e => by
    obtain ⟨y, r, rfl, h2, h3⟩ := h
    exact HasL.get' (ds := ds) (xs := r) (i := i) h3 e
theorem HasL.append : ∀ {ds es : List Dt} {xs ys : List V} {H : Hp}, HasL ds xs H → HasL es ys H → HasL (ds ++ es) (xs ++ ys) H
  | [], _, _, _, _, h, g => by
    cases (show _ = [] from h)
    exact g
  | d :: ds, es, _, ys, _, h, g => by
    obtain ⟨y, r, rfl, h2, h3⟩ := h
    exact ⟨y, r ++ ys, rfl, h2, HasL.append h3 g⟩
theorem HasL.one {d : Dt} {x : V} {H : Hp} (h : Has d x H) : HasL [d] [x] H := ⟨x, [], rfl, h, rfl⟩
theorem HasL.nil {H : Hp} : HasL [] [] H := rfl
theorem HasL.cons {d : Dt} {x : V} {H : Hp} {ds : List Dt} {xs : List V} (h : Has d x H) (g : HasL ds xs H) : HasL (d :: ds) (x :: xs) H := ⟨x, xs, rfl, h, g⟩
theorem HasL.take : ∀ (n : Nat) {ds : List Dt} {xs : List V} {H : Hp}, HasL ds xs H → HasL (ds.take n) (xs.take n) H
  | 0, ds, xs, _, h => by
    rw [List.take_zero, List.take_zero]
    exact rfl
  | n + 1, [], _, _, h => by
    cases (show _ = [] from h)
    exact rfl
  | n + 1, d :: ds, _, _, h => by
    obtain ⟨y, r, rfl, h2, h3⟩ := h
    exact ⟨y, r.take n, rfl, h2, HasL.take n h3⟩
theorem HasL.drop : ∀ (n : Nat) {ds : List Dt} {xs : List V} {H : Hp}, HasL ds xs H → HasL (ds.drop n) (xs.drop n) H
  | 0, ds, xs, _, h => h
  | n + 1, [], _, _, h => by
    cases (show _ = [] from h)
    exact rfl
  | n + 1, d :: ds, _, _, h => by
    obtain ⟨y, r, rfl, h2, h3⟩ := h
    exact HasL.drop n h3
theorem HasL.reverse : ∀ {ds : List Dt} {xs : List V} {H : Hp}, HasL ds xs H → HasL ds.reverse xs.reverse H
  | [], _, _, h => by
    cases (show _ = [] from h)
    exact rfl
  | d :: ds, _, _, h => by
    obtain ⟨y, r, rfl, h2, h3⟩ := h
    rw [List.reverse_cons, List.reverse_cons]
    exact (HasL.reverse h3).append (HasL.one h2)
theorem HasL.perm {xs ys : List V} {H : Hp} (p : ys.Perm xs) : ∀ {ds : List Dt}, HasL ds xs H → ∃ es, es.Perm ds ∧ HasL es ys H := by
  induction p with
  | nil =>
    intro ds h
    exact ⟨ds, .refl _, h⟩
  | cons x p ih =>
    intro ds h
    cases ds with
    | nil => cases (show _ = [] from h)
    | cons d ds =>
      obtain ⟨y, r, e, h2, h3⟩ := h
      cases e
      obtain ⟨es, q, g⟩ := ih h3
      exact ⟨d :: es, q.cons _, _, _, rfl, h2, g⟩
  | swap x y l =>
    intro ds h
    match ds, h with
    | [], h => cases (show _ = [] from h)
    | [d], h =>
      obtain ⟨y, r, e, h2, h3⟩ := h
      cases e
      cases (show _ = [] from h3)
    | d :: e :: ds, h =>
      obtain ⟨y, r, q, h2, z, r2, q2, h4, h5⟩ := h
      cases q
      cases q2
      exact ⟨e :: d :: ds, List.Perm.swap _ _ _, _, _, rfl, h4, _, _, rfl, h2, h5⟩
  | trans p q ihp ihq =>
    intro ds h
    obtain ⟨es, q1, g1⟩ := ihq h
    obtain ⟨fs, q2, g2⟩ := ihp g1
    exact ⟨fs, q2.trans q1, g2⟩
/-- ints -/
abbrev intsD (ns : List Int) : List Dt := ns.map Dt.int
abbrev lotD (ns : List Int) : Dt := .tup (intsD ns)
theorem hasL_ints : ∀ {ns : List Int} {xs : List V} {H : Hp}, HasL (intsD ns) xs H ↔ xs = ns.map V.int
  | [], _, _ => Iff.rfl
  | n :: ns, xs, H => by
    constructor
    · intro h
      obtain ⟨x, r, rfl, h2, h3⟩ := h
      rw [hasL_ints.mp h3]
      have e : x = .int n := h2
      rw [e]
      rfl
    · intro h
      exact ⟨.int n, ns.map V.int, h, rfl, hasL_ints.mpr rfl⟩
abbrev boolsD (ns : List Bool) : List Dt := ns.map Dt.bl
theorem hasL_bools : ∀ {ns : List Bool} {xs : List V} {H : Hp}, HasL (boolsD ns) xs H ↔ xs = ns.map V.bl
  | [], _, _ => Iff.rfl
  | n :: ns, xs, H => by
    constructor
    · intro h
      obtain ⟨x, r, rfl, h2, h3⟩ := h
      rw [hasL_bools.mp h3]
      have e : x = .bl n := h2
      rw [e]
      rfl
    · intro h
      exact ⟨.bl n, ns.map V.bl, h, rfl, hasL_bools.mpr rfl⟩

/-! ### the known part B of the heap H; draws -/
def Dr (a : Addr) (B H : Hp) : Prop := B a = none ∧ ∃ ns : List Int, H a = some (.lst (ns.map V.int))
structure Gr (D : Option Addr) (B H B2 H2 : Hp) : Prop where
  b : Ex B B2
  i : Ex B2 H2
  k : ∀ a o, some a ≠ D → H a = some o → B a = none → B2 a = none ∧ H2 a = some o
  d : ∀ a, D = some a → Dr a B H → Dr a B2 H2
section
variable {D : Option Addr} {B H B1 H1 B2 H2 : Hp} {p a : Addr} {o : HO}
theorem Gr.refl (e : Ex B H) : Gr D B H B H := ⟨Ex.refl B, e, fun _ _ _ h n => ⟨n, h⟩, fun _ _ h => h⟩
theorem Gr.trans (g : Gr D B H B1 H1) (h : Gr D B1 H1 B2 H2) : Gr D B H B2 H2 where
  b := g.b.trans h.b
  i := h.i
  k := fun a o n e z => by
    obtain ⟨z1, e1⟩ := g.k a o n e z
    exact h.k a o n e1 z1
  d := fun a e z => h.d a e (g.d a e z)
theorem ex_none (e : Ex B H) (n : H a = none) : B a = none := by
  cases q : B a with
  | none => rfl
  | some o =>
    rw [e a o q] at n
    cases n
/-- a new known object -/
theorem Gr.new (e : Ex B H) (n : H p = none) : Gr D B H (upd B p o) (upd H p o) where
  b := Ex.new (ex_none e n)
  i := fun a u h => by
    by_cases q : a = p
    · subst q
      rw [upd_same] at h ⊢
      exact h
    · rw [upd_ne q] at h ⊢
      exact e a u h
  k := fun a u _ h z => by
    have q : a ≠ p := ne_of_none h n
    rw [upd_ne q, upd_ne q]
    exact ⟨z, h⟩
  d := fun a _ h => by
    obtain ⟨z, ns, h⟩ := h
    have q : a ≠ p := ne_of_none h n
    exact ⟨by rw [upd_ne q]; exact z, ns, by rw [upd_ne q]; exact h⟩
/-- a new object that is one's own -/
theorem Gr.newO (e : Ex B H) (n : H p = none) : Gr D B H B (upd H p o) where
  b := Ex.refl B
  i := e.trans (Ex.new n)
  k := fun a u _ h z => by
    have q : a ≠ p := ne_of_none h n
    rw [upd_ne q]
    exact ⟨z, h⟩
  d := fun a _ h => by
    obtain ⟨z, ns, h⟩ := h
    have q : a ≠ p := ne_of_none h n
    exact ⟨z, ns, by rw [upd_ne q]; exact h⟩
/-- one's own object, new since H, becomes known -/
theorem Gr.know (g : Gr D B H B2 H2) (n : H p = none) (z : B2 p = none) (h : H2 p = some o) : Gr D B H (upd B2 p o) H2 where
  b := g.b.trans (Ex.new z)
  i := fun a u q => by
    by_cases e : a = p
    · subst e
      rw [upd_same] at q
      cases q
      exact h
    · rw [upd_ne e] at q
      exact g.i a u q
  k := fun a u d e y => by
    have q : a ≠ p := ne_of_none e n
    rw [upd_ne q]
    exact g.k a u d e y
  d := fun a e y => by
    obtain ⟨z2, ns, h2⟩ := g.d a e y
    obtain ⟨_, ms, h0⟩ := y
    have q : a ≠ p := ne_of_none h0 n
    exact ⟨by rw [upd_ne q]; exact z2, ns, h2⟩
/-- one's own object, new since H, changes -/
theorem Gr.mut (g : Gr D B H B2 H2) (n : H p = none) (z : B2 p = none) : Gr D B H B2 (upd H2 p o) where
  b := g.b
  i := fun a u q => by
    have e : a ≠ p := ne_of_none q z
    rw [upd_ne e]
    exact g.i a u q
  k := fun a u d e y => by
    have q : a ≠ p := ne_of_none e n
    rw [upd_ne q]
    exact g.k a u d e y
  d := fun a e y => by
    obtain ⟨z2, ns, h2⟩ := g.d a e y
    obtain ⟨_, ms, h0⟩ := y
    have q : a ≠ p := ne_of_none h0 n
    exact ⟨z2, ns, by rw [upd_ne q]; exact h2⟩
theorem Gr.any (g : Gr none B H B2 H2) : Gr D B H B2 H2 where
  b := g.b
  i := g.i
  k := fun a o _ h n => g.k a o (fun z => nomatch z) h n
  d := fun a _ y => by
    obtain ⟨z, ns, h⟩ := y
    obtain ⟨h1, h2⟩ := g.k a _ (fun z => nomatch z) h z
    exact ⟨h1, ns, h2⟩
theorem Gr.none_back (g : Gr D B H B2 H2) (e : Ex B H) (hd : ∀ a, D = some a → Dr a B H) (n : H2 p = none) : H p = none := by
  cases q : H p with
  | none => rfl
  | some o =>
    by_cases d : some p = D
    · obtain ⟨_, ns, h⟩ := g.d p d.symm (hd p d.symm)
      rw [h] at n
      cases n
    · cases z : B p with
      | none =>
        rw [(g.k p o d q z).2] at n
        cases n
      | some u =>
        rw [g.i p u (g.b p u z)] at n
        cases n
end

/-! ### environments -/
inductive Sl where
  | any
  | dat (d : Dt)
  | own (ds : List Dt)
  | drw
  | val (v : V)
  | obj (a : Addr) (φ : Hp → HO → Prop)
  | sq (a : Addr) (φ : Hp → Prop)
def SlR (D : Option Addr) (B H : Hp) : Option Sl → Option (Option V) → Prop
  | some (.dat d), o => ∃ v, o = some (some v) ∧ Has d v B
  | some (.own ds), o => ∃ a xs, o = some (some (.ref a)) ∧ B a = none ∧ H a = some (.lst xs) ∧ HasL ds xs B ∧ some a ≠ D
  | some .drw, o => ∃ a, o = some (some (.ref a)) ∧ D = some a
  | some (.val v), o => o = some (some v)
  | some (.sq a φ), o => o = some (some (.ref a)) ∧ ∀ H', Ex B H' → φ H'
  | some (.obj a φ), o => o = some (some (.ref a)) ∧ B a = none ∧ (∃ u, H a = some u ∧ (∀ xs, u ≠ .lst xs) ∧ φ B u) ∧ (∀ B B' u, Ex B B' → φ B u → φ B' u) ∧ some a ≠ D
  | _, _ => True
structure Rl (D : Option Addr) (ρ : List Sl) (σ : L2.St) (B H : Hp) : Prop where
  ex : Ex B H
  len : σ.length = ρ.length
  at_ : ∀ i : Nat, SlR D B H ρ[i]? σ[i]?
  dr : ∀ a, D = some a → Dr a B H
section
variable {D : Option Addr} {B H B2 H2 : Hp} {ρ : List Sl} {σ : L2.St}
theorem SlR.gr {s : Option Sl} {o : Option (Option V)} (h : SlR D B H s o) (g : Gr D B H B2 H2) : SlR D B2 H2 s o := by
  match s, h with
  | none, _ => trivial
  | some .any, _ => trivial
  | some (.dat d), h =>
    obtain ⟨v, h1, h2⟩ := h
    exact ⟨v, h1, h2.mono g.b⟩
  | some (.own ds), h =>
    obtain ⟨a, xs, h1, h2, h3, h4, h5⟩ := h
    obtain ⟨z1, z2⟩ := g.k a _ h5 h3 h2
    exact ⟨a, xs, h1, z1, z2, h4.mono g.b, h5⟩
  | some .drw, h => exact h
  | some (.val v), h => exact h
  | some (.sq a φ), h => exact ⟨h.1, fun H' e => h.2 H' (g.b.trans e)⟩
  | some (.obj a φ), h =>
    obtain ⟨h1, h2, ⟨u, h3, h6, h7⟩, h4, h5⟩ := h
    obtain ⟨z1, z2⟩ := g.k a _ h5 h3 h2
    exact ⟨h1, z1, ⟨u, z2, h6, h4 _ _ _ g.b h7⟩, h4, h5⟩
theorem Rl.gr (h : Rl D ρ σ B H) (g : Gr D B H B2 H2) : Rl D ρ σ B2 H2 :=
  ⟨g.i, h.len, fun i => (h.at_ i).gr g, fun a e => g.d a e (h.dr a e)⟩
theorem Rl.dat (h : Rl D ρ σ B H) {i : Nat} {d : Dt} (e : ρ[i]? = some (.dat d)) : ∃ v, σ[i]? = some (some v) ∧ Has d v B := by
  have q := h.at_ i
  rw [e] at q
  exact q
theorem Rl.val (h : Rl D ρ σ B H) {i : Nat} {v : V} (e : ρ[i]? = some (.val v)) : σ[i]? = some (some v) := by
  have q := h.at_ i
  rw [e] at q
  exact q
theorem Rl.sq (h : Rl D ρ σ B H) {i : Nat} {a : Addr} {φ : Hp → Prop} (e : ρ[i]? = some (.sq a φ)) : σ[i]? = some (some (.ref a)) ∧ ∀ H', Ex B H' → φ H' := by
  have q := h.at_ i
  rw [e] at q
  exact q
theorem Rl.obj (h : Rl D ρ σ B H) {i : Nat} {a : Addr} {φ : Hp → HO → Prop} (e : ρ[i]? = some (.obj a φ)) :
    σ[i]? = some (some (.ref a)) ∧ B a = none ∧ (∃ u, H a = some u ∧ (∀ xs, u ≠ .lst xs) ∧ φ B u) ∧ (∀ B B' u, Ex B B' → φ B u → φ B' u) ∧ some a ≠ D := by
  have q := h.at_ i
  rw [e] at q
  exact q
theorem Rl.own (h : Rl D ρ σ B H) {i : Nat} {ds : List Dt} (e : ρ[i]? = some (.own ds)) : ∃ a xs, σ[i]? = some (some (.ref a)) ∧ B a = none ∧ H a = some (.lst xs) ∧ HasL ds xs B ∧ some a ≠ D := by
  have q := h.at_ i
  rw [e] at q
  exact q
theorem Rl.set (h : Rl D ρ σ B H) {i : Nat} {d : Dt} {v : V} (hv : Has d v B) : Rl D (ρ.set i (.dat d)) (σ.set i (some v)) B H := by
  refine ⟨h.ex, by rw [List.length_set, List.length_set]; exact h.len, fun j => ?_, h.dr⟩
  by_cases q : i = j
  · subst q
    by_cases l : i < ρ.length
    · rw [List.getElem?_set_self l, List.getElem?_set_self (by rw [h.len]; exact l)]
      exact ⟨v, rfl, hv⟩
    · rw [List.getElem?_eq_none (by simpa using l)]
      trivial
  · rw [List.getElem?_set_ne q, List.getElem?_set_ne q]
    exact h.at_ j
theorem Rl.setO (h : Rl D ρ σ B H) {i : Nat} {ds : List Dt} {a : Addr} {xs : List V} (z : B a = none) (hx : H a = some (.lst xs)) (hv : HasL ds xs B) (nd : some a ≠ D) : Rl D (ρ.set i (.own ds)) (σ.set i (some (.ref a))) B H := by
  refine ⟨h.ex, by rw [List.length_set, List.length_set]; exact h.len, fun j => ?_, h.dr⟩
  by_cases q : i = j
  · subst q
    by_cases l : i < ρ.length
    · rw [List.getElem?_set_self l, List.getElem?_set_self (by rw [h.len]; exact l)]
      exact ⟨a, xs, rfl, z, hx, hv, nd⟩
    · rw [List.getElem?_eq_none (by simpa using l)]
      trivial
  · rw [List.getElem?_set_ne q, List.getElem?_set_ne q]
    exact h.at_ j
/-- forgetting -/
def wipeR (ρ : List Sl) : List Nat → List Sl
  | [] => ρ
  | v :: vs => (wipeR ρ vs).set v .any
theorem Rl.wipe (h : Rl D ρ σ B H) : ∀ vs : List Nat, Rl D (wipeR ρ vs) (L2.wipe σ vs) B H
  | [] => h
  | v :: vs => by
    have ih := h.wipe vs
    show Rl D ((wipeR ρ vs).set v .any) ((L2.wipe σ vs).set v none) B H
    refine ⟨h.ex, by rw [List.length_set, List.length_set]; exact ih.len, fun j => ?_, h.dr⟩
    by_cases q : v = j
    · subst q
      by_cases l : v < (wipeR ρ vs).length
      · rw [List.getElem?_set_self l]
        trivial
      · rw [List.getElem?_eq_none (by simpa using l)]
        trivial
    · rw [List.getElem?_set_ne q, List.getElem?_set_ne q]
      exact ih.at_ j
/-- less is known -/
def Le : Sl → Sl → Prop
  | .any, _ => True
  | s, t => s = t
theorem Rl.weak (h : Rl D ρ σ B H) {ρ' : List Sl} (l : ρ'.length = ρ.length) (w : ∀ (i : Nat) (s : Sl), ρ'[i]? = some s → s = Sl.any ∨ ρ[i]? = some s) : Rl D ρ' σ B H := by
  refine ⟨h.ex, by rw [l]; exact h.len, fun j => ?_, h.dr⟩
  cases q : ρ'[j]? with
  | none => trivial
  | some s =>
    rcases w j s q with e | e
    · subst e
      trivial
    · have z := h.at_ j
      rw [e] at z
      exact z
end
/-- several slots are set -/
def setR (ρ : List Sl) : List (Nat × Dt) → List Sl
  | [] => ρ
  | p :: l => setR (ρ.set p.1 (.dat p.2)) l
def setV (σ : L2.St) : List Nat → List V → L2.St
  | j :: js, v :: vs => setV (σ.set j (some v)) js vs
  | _, _ => σ
theorem Rl.sets {D : Option Addr} {B H : Hp} : ∀ {l : List (Nat × Dt)} {ρ : List Sl} {σ : L2.St} {vs : List V}, Rl D ρ σ B H → HasL (l.map (·.2)) vs B → Rl D (setR ρ l) (setV σ (l.map (·.1)) vs) B H
  | [], _, _, _, h, g => h
  | p :: l, ρ, σ, _, h, g => by
    obtain ⟨x, r, rfl, h2, h3⟩ := g
    exact Rl.sets (l := l) (ρ := ρ.set p.1 (.dat p.2)) (σ := σ.set p.1 (some x)) (vs := r) (h.set h2) h3
theorem setV_len : ∀ (js : List Nat) (vs : List V) (σ : L2.St), (setV σ js vs).length = σ.length
  | [], _, _ => rfl
  | _ :: _, [], _ => rfl
  | j :: js, v :: vs, σ => by
    show (setV (σ.set j (some v)) js vs).length = _
    rw [setV_len js vs, List.length_set]
theorem setV_ne : ∀ (js : List Nat) (vs : List V) (σ : L2.St) (i : Nat), i ∉ js → (setV σ js vs)[i]? = σ[i]?
  | [], _, _, _, _ => rfl
  | _ :: _, [], _, _, _ => rfl
  | j :: js, v :: vs, σ, i, h => by
    show (setV (σ.set j (some v)) js vs)[i]? = _
    rw [setV_ne js vs _ i (fun z => h (List.mem_cons_of_mem _ z)), List.getElem?_set_ne (fun z => h (by rw [z]; exact List.mem_cons_self))]
theorem wipe_at : ∀ (vs : List Nat) (σ : L2.St) (i : Nat), (L2.wipe σ vs)[i]? = if i ∈ vs ∧ i < σ.length then some none else σ[i]?
  | [], σ, i => by simp [L2.wipe]
  | v :: vs, σ, i => by
    show ((L2.wipe σ vs).set v none)[i]? = _
    by_cases q : v = i
    · subst q
      by_cases l : v < σ.length
      · rw [List.getElem?_set_self (by rw [L2.wipe_length]; exact l), if_pos ⟨List.mem_cons_self, l⟩]
      · rw [List.getElem?_eq_none (by rw [List.length_set, L2.wipe_length]; omega), if_neg (fun z => l z.2), List.getElem?_eq_none (by omega)]
    · rw [List.getElem?_set_ne q, wipe_at vs σ i]
      by_cases m : i ∈ vs
      · by_cases l : i < σ.length
        · rw [if_pos ⟨m, l⟩, if_pos ⟨List.mem_cons_of_mem _ m, l⟩]
        · rw [if_neg (fun z => l z.2), if_neg (fun z => l z.2)]
      · rw [if_neg (fun z => m z.1), if_neg]
        intro z
        rcases List.mem_cons.mp z.1 with e | e
        · exact q e.symm
        · exact m e
theorem wipe_setV {σ : L2.St} {vs js : List Nat} {xs : List V} (h : ∀ j ∈ js, j ∈ vs) : L2.wipe (setV (L2.wipe σ vs) js xs) vs = L2.wipe σ vs := by
  apply List.ext_getElem?
  intro i
  rw [wipe_at, setV_len, L2.wipe_length]
  by_cases m : i ∈ vs
  · by_cases l : i < σ.length
    · rw [if_pos ⟨m, l⟩, wipe_at, if_pos ⟨m, l⟩]
    · rw [if_neg (fun z => l z.2), List.getElem?_eq_none (by rw [setV_len, L2.wipe_length]; omega), List.getElem?_eq_none (by rw [L2.wipe_length]; omega)]
  · rw [if_neg (fun z => m z.1), setV_ne _ _ _ _ (fun z => m (h i z))]

end K37
/-! K37B: judgements on readings. -/
namespace K37
open PySem L2
open Evl (Ex)

/-! ### expressions -/
/-- te gives a value of some data d with P d -/
def EVP (D : Option Addr) (te : TE) (ρ : List Sl) (P : Dt → Prop) : Prop :=
  ∀ σ B H, Rl D ρ σ B H → ∀ Q : VK, (∀ v d B2 H2, P d → Gr D B H B2 H2 → Has d v B2 → Q v H2) → te σ H Q
abbrev EV (D : Option Addr) (te : TE) (ρ : List Sl) (d : Dt) : Prop := EVP D te ρ (fun e => e = d)
/-- a new list, one's own -/
def EOP (D : Option Addr) (te : TE) (ρ : List Sl) (P : List Dt → Prop) : Prop :=
  ∀ σ B H, Rl D ρ σ B H → ∀ Q : VK, (∀ p xs ds B2 H2, P ds → Gr D B H B2 H2 → H p = none → B2 p = none → H2 p = some (.lst xs) → HasL ds xs B2 → Q (.ref p) H2) → te σ H Q
abbrev EO (D : Option Addr) (te : TE) (ρ : List Sl) (ds : List Dt) : Prop := EOP D te ρ (fun e => e = ds)
def ETP (D : Option Addr) (tt : TT) (ρ : List Sl) (P : Bool → Prop) : Prop :=
  ∀ σ B H, Rl D ρ σ B H → ∀ Q : Bool → Hp → Prop, (∀ b B2 H2, P b → Gr D B H B2 H2 → Q b H2) → tt σ H Q
abbrev ET (D : Option Addr) (tt : TT) (ρ : List Sl) (b : Bool) : Prop := ETP D tt ρ (fun c => c = b)
def EAP (D : Option Addr) (ta : TA) (ρ : List Sl) (P : List Dt → Prop) : Prop :=
  ∀ σ B H, Rl D ρ σ B H → ∀ Q : List V → Hp → Prop, (∀ vs ds B2 H2, P ds → Gr D B H B2 H2 → HasL ds vs B2 → Q vs H2) → ta σ H Q
abbrev EA (D : Option Addr) (ta : TA) (ρ : List Sl) (ds : List Dt) : Prop := EAP D ta ρ (fun e => e = ds)
def EPo (D : Option Addr) (to : TO) (ρ : List Sl) (o : Option Int) : Prop :=
  ∀ σ B H, Rl D ρ σ B H → ∀ Q : Option Int → Hp → Prop, (∀ B2 H2, Gr D B H B2 H2 → Q o H2) → to σ H Q

section
variable {D : Option Addr} {ρ : List Sl} {ta tb te tc : TE} {tt tu : TT} {P P' : Dt → Prop} {PL PL' : List Dt → Prop} {d x y z : Dt} {ds es : List Dt}
theorem EVP.imp (h : EVP D te ρ P) (w : ∀ d, P d → P' d) : EVP D te ρ P' := fun σ B H r Q q => h σ B H r Q fun v d B2 H2 p => q v d B2 H2 (w d p)
theorem EOP.imp (h : EOP D te ρ PL) (w : ∀ d, PL d → PL' d) : EOP D te ρ PL' := fun σ B H r Q q => h σ B H r Q fun p xs ds B2 H2 a => q p xs ds B2 H2 (w ds a)
theorem EV.to (h : EV D te ρ x) (e : x = y) : EV D te ρ y := e ▸ h
theorem EO.to (h : EO D te ρ ds) (e : ds = es) : EO D te ρ es := e ▸ h
/-- a new list, known from now on -/
theorem EOP.ev (h : EOP D te ρ PL) : EVP D te ρ (fun d => ∃ ds, PL ds ∧ d = .lst ds) := fun σ B H r Q q =>
  h σ B H r Q fun p xs ds B2 H2 a g n z e l => q (.ref p) (.lst ds) (upd B2 p (.lst xs)) H2 ⟨ds, a, rfl⟩ (g.know n z e) ⟨p, xs, rfl, upd_same, l.mono (Ex.new z)⟩
theorem EO.ev (h : EO D te ρ ds) : EV D te ρ (.lst ds) := EVP.imp (EOP.ev h) fun d ⟨_, e, q⟩ => by rw [q, e]
theorem ev_var {i : Nat} (e : ρ[i]? = some (.dat d) := by rfl) : EV D (tVar i) ρ d := fun σ B H r Q q => by
  obtain ⟨v, h1, h2⟩ := r.dat e
  exact ⟨v, h1, q v d B H rfl (Gr.refl r.ex) h2⟩
theorem ev_int {i : Int} : EV D (tC (.int i)) ρ (.int i) := fun σ B H r Q q => q _ _ B H rfl (Gr.refl r.ex) rfl
theorem ev_bl {i : Bool} : EV D (tC (.bl i)) ρ (.bl i) := fun σ B H r Q q => q _ _ B H rfl (Gr.refl r.ex) rfl
theorem ev_str {i : Str} : EV D (tC (.str i)) ρ (.str i) := fun σ B H r Q q => q _ _ B H rfl (Gr.refl r.ex) rfl
theorem ev_non : EV D (tC .non) ρ .non := fun σ B H r Q q => q _ _ B H rfl (Gr.refl r.ex) rfl
/-- an operation on data -/
def RD (D : Option Addr) (r : R2) (x y : Dt) (P : Dt → Prop) : Prop :=
  ∀ v w B H, Ex B H → (∀ a, D = some a → Dr a B H) → Has x v B → Has y w B → ∀ Q : VK, (∀ u d B2 H2, P d → Gr D B H B2 H2 → Has d u B2 → Q u H2) → r v w H Q
theorem evp_op {r : R2} {Px Py : Dt → Prop} (ha : EVP D ta ρ Px) (hb : EVP D tb ρ Py) (hr : ∀ x y, Px x → Py y → RD D r x y P) : EVP D (tOp r ta tb) ρ P := fun σ B H l Q q =>
  ha σ B H l _ fun v x B1 H1 px g1 h1 => hb σ B1 H1 (l.gr g1) _ fun w y B2 H2 py g2 h2 =>
    hr x y px py v w B2 H2 g2.i ((l.gr g1).gr g2).dr (h1.mono g2.b) h2 Q fun u d B3 H3 p g3 h3 => q u d B3 H3 p ((g1.trans g2).trans g3) h3
theorem ev_op {r : R2} (ha : EV D ta ρ x) (hb : EV D tb ρ y) (hr : RD D r x y P) : EVP D (tOp r ta tb) ρ P := evp_op ha hb fun _ _ e e' => by
  subst e e'
  exact hr
/-- no change -/
theorem rd_of {r : R2} (h : ∀ v w B H, Ex B H → Has x v B → Has y w B → ∀ Q : VK, (∀ u, Has z u B → Q u H) → r v w H Q) : RD D r x y (fun e => e = z) := fun v w B H e _ hx hy Q q =>
  h v w B H e hx hy Q fun u hu => q u z B H rfl (Gr.refl e) hu
theorem rd_I0 {g : Int → Int → V} {i j : Int} (h : ∀ B, Has z (g i j) B) : RD D (rI0 g) (.int i) (.int j) (fun e => e = z) := rd_of fun v w B H e hx hy Q q => ⟨i, j, hx, hy, q _ (h B)⟩
theorem rd_I {C : Int → Int → Prop} {g : Int → Int → V} {i j : Int} (hc : C i j) (h : ∀ B, Has z (g i j) B) : RD D (rI C g) (.int i) (.int j) (fun e => e = z) := rd_of fun v w B H e hx hy Q q => ⟨i, j, hx, hy, hc, q _ (h B)⟩
theorem ev_add {i j : Int} (ha : EV D ta ρ (.int i)) (hb : EV D tb ρ (.int j)) : EV D (tOp (rI0 fun i j => .int (i + j)) ta tb) ρ (.int (i + j)) := ev_op ha hb (rd_I0 fun _ => rfl)
theorem ev_sub {i j : Int} (ha : EV D ta ρ (.int i)) (hb : EV D tb ρ (.int j)) : EV D (tOp (rI0 fun i j => .int (i - j)) ta tb) ρ (.int (i - j)) := ev_op ha hb (rd_I0 fun _ => rfl)
theorem ev_lt {i j : Int} (ha : EV D ta ρ (.int i)) (hb : EV D tb ρ (.int j)) : EV D (tOp (rI0 fun i j => .bl (decide (i < j))) ta tb) ρ (.bl (decide (i < j))) := ev_op ha hb (rd_I0 fun _ => rfl)
theorem ev_le {i j : Int} (ha : EV D ta ρ (.int i)) (hb : EV D tb ρ (.int j)) : EV D (tOp (rI0 fun i j => .bl (decide (i ≤ j))) ta tb) ρ (.bl (decide (i ≤ j))) := ev_op ha hb (rd_I0 fun _ => rfl)
theorem ev_gt {i j : Int} (ha : EV D ta ρ (.int i)) (hb : EV D tb ρ (.int j)) : EV D (tOp (rI0 fun i j => .bl (decide (j < i))) ta tb) ρ (.bl (decide (j < i))) := ev_op ha hb (rd_I0 fun _ => rfl)
theorem ev_ge {i j : Int} (ha : EV D ta ρ (.int i)) (hb : EV D tb ρ (.int j)) : EV D (tOp (rI0 fun i j => .bl (decide (j ≤ i))) ta tb) ρ (.bl (decide (j ≤ i))) := ev_op ha hb (rd_I0 fun _ => rfl)
theorem ev_eqI {i j : Int} (ha : EV D ta ρ (.int i)) (hb : EV D tb ρ (.int j)) : EV D (tOp rEq ta tb) ρ (.bl (decide (i = j))) := ev_op ha hb (rd_of fun v w B H e hx hy Q q => by
  have e1 : v = .int i := hx
  have e2 : w = .int j := hy
  subst e1 e2
  refine ⟨rfl, q _ ?_⟩
  show V.bl (decide (V.int i = V.int j)) = V.bl (decide (i = j))
  congr 1
  exact decide_eq_decide.mpr ⟨fun z => V.int.inj z, fun z => congrArg _ z⟩)
theorem ev_neI {i j : Int} (ha : EV D ta ρ (.int i)) (hb : EV D tb ρ (.int j)) : EV D (tOp rNe ta tb) ρ (.bl (!decide (i = j))) := ev_op ha hb (rd_of fun v w B H e hx hy Q q => by
  have e1 : v = .int i := hx
  have e2 : w = .int j := hy
  subst e1 e2
  refine ⟨rfl, q _ ?_⟩
  show V.bl (!decide (V.int i = V.int j)) = V.bl (!decide (i = j))
  congr 2
  exact decide_eq_decide.mpr ⟨fun z => V.int.inj z, fun z => congrArg _ z⟩)
theorem ev_eqS {i j : Str} (ha : EV D ta ρ (.str i)) (hb : EV D tb ρ (.str j)) : EV D (tOp rEq ta tb) ρ (.bl (decide (i = j))) := ev_op ha hb (rd_of fun v w B H e hx hy Q q => by
  have e1 : v = .str i := hx
  have e2 : w = .str j := hy
  subst e1 e2
  refine ⟨rfl, q _ ?_⟩
  show V.bl (decide (V.str i = V.str j)) = V.bl (decide (i = j))
  congr 1
  exact decide_eq_decide.mpr ⟨fun z => V.str.inj z, fun z => congrArg _ z⟩)
theorem ev_neS {i j : Str} (ha : EV D ta ρ (.str i)) (hb : EV D tb ρ (.str j)) : EV D (tOp rNe ta tb) ρ (.bl (!decide (i = j))) := ev_op ha hb (rd_of fun v w B H e hx hy Q q => by
  have e1 : v = .str i := hx
  have e2 : w = .str j := hy
  subst e1 e2
  refine ⟨rfl, q _ ?_⟩
  show V.bl (!decide (V.str i = V.str j)) = V.bl (!decide (i = j))
  congr 2
  exact decide_eq_decide.mpr ⟨fun z => V.str.inj z, fun z => congrArg _ z⟩)
theorem ev_eqB {i j : Bool} (ha : EV D ta ρ (.bl i)) (hb : EV D tb ρ (.bl j)) : EV D (tOp rEq ta tb) ρ (.bl (decide (i = j))) := ev_op ha hb (rd_of fun v w B H e hx hy Q q => by
  have e1 : v = .bl i := hx
  have e2 : w = .bl j := hy
  subst e1 e2
  refine ⟨rfl, q _ ?_⟩
  show V.bl (decide (V.bl i = V.bl j)) = V.bl (decide (i = j))
  congr 1
  exact decide_eq_decide.mpr ⟨fun z => V.bl.inj z, fun z => congrArg _ z⟩)
theorem ev_mul {i j : Int} (h : CMul i j) (ha : EV D ta ρ (.int i)) (hb : EV D tb ρ (.int j)) : EV D (tOp (rI CMul fun i j => .int (i * j)) ta tb) ρ (.int (i * j)) := ev_op ha hb (rd_I h fun _ => rfl)
theorem ev_mod {i j : Int} (h : 0 < j) (ha : EV D ta ρ (.int i)) (hb : EV D tb ρ (.int j)) : EV D (tOp (rI (fun _ j => 0 < j) fun i j => .int (i % j)) ta tb) ρ (.int (i % j)) := ev_op ha hb (rd_I h fun _ => rfl)
/-- a one-place operation -/
theorem ev_un {g : Int → V} {i : Int} (ha : EV D ta ρ (.int i)) (h : ∀ B, Has z (g i) B) : EV D (tUn (rU g) ta) ρ z := fun σ B H l Q q =>
  ha σ B H l _ fun v x B1 H1 px g1 h1 => by
    subst px
    exact ⟨i, h1, q _ _ B1 H1 rfl g1 (h B1)⟩
theorem ev_neg {i : Int} (ha : EV D ta ρ (.int i)) : EV D (tUn (rU fun i => .int (-i)) ta) ρ (.int (-i)) := ev_un ha fun _ => rfl
/-- is None, is not None -/
def isN : Dt → Bool
  | .non => true
  | _ => false
theorem has_isN {d : Dt} {v : V} {H : Hp} (h : Has d v H) : decide (v = .non) = isN d := by
  cases d with
  | non => rw [show v = .non from h]; rfl
  | bl b => rw [show v = .bl b from h]; rfl
  | int b => rw [show v = .int b from h]; rfl
  | str b => rw [show v = .str b from h]; rfl
  | tup ds => obtain ⟨a, xs, rfl, _⟩ := h; rfl
  | lst ds => obtain ⟨a, xs, rfl, _⟩ := h; rfl
  | told C n c => obtain ⟨a, dx, fs, x, rfl, _⟩ := h; rfl
  | tbl C n c ps => obtain ⟨a, dx, fs, x, b, ks, rfl, _⟩ := h; rfl
theorem ev_isN (ha : EV D ta ρ x) : EV D (tIsN ta) ρ (.bl (isN x)) := fun σ B H l Q q => ha σ B H l _ fun v x' B1 H1 px g1 h1 => by
  subst px
  rw [has_isN h1]
  exact q _ _ B1 H1 rfl g1 rfl
theorem ev_notN (ha : EV D ta ρ x) : EV D (tNotN ta) ρ (.bl (!isN x)) := fun σ B H l Q q => ha σ B H l _ fun v x' B1 H1 px g1 h1 => by
  subst px
  rw [has_isN h1]
  exact q _ _ B1 H1 rfl g1 rfl
theorem evp_isN {P : Dt → Prop} (ha : EVP D ta ρ P) : EVP D (tIsN ta) ρ (fun e => ∃ x, P x ∧ e = .bl (isN x)) := fun σ B H l Q q => ha σ B H l _ fun v x' B1 H1 px g1 h1 => by
  rw [has_isN h1]
  exact q _ _ B1 H1 ⟨x', px, rfl⟩ g1 rfl

/-! ### tests -/
theorem et_test {b : Bool} (h : EV D te ρ (.bl b)) : ET D (tTest te) ρ b := fun σ B H l Q q => h σ B H l _ fun v x B1 H1 px g1 h1 => by
  subst px
  exact ⟨b, h1, q _ B1 H1 rfl g1⟩
theorem et_B {b : Bool} (h : EV D te ρ (.bl b)) : ET D (tB te) ρ b := fun σ B H l Q q => h σ B H l _ fun v x B1 H1 px g1 h1 => by
  subst px
  exact ⟨b, h1, q _ B1 H1 rfl g1⟩
theorem etp_test {P : Bool → Prop} (h : EVP D te ρ (fun d => ∃ b, P b ∧ d = .bl b)) : ETP D (tTest te) ρ P := fun σ B H l Q q => h σ B H l _ fun v x B1 H1 px g1 h1 => by
  obtain ⟨b, pb, rfl⟩ := px
  exact ⟨b, h1, q _ B1 H1 pb g1⟩
theorem etp_B {P : Bool → Prop} (h : EVP D te ρ (fun d => ∃ b, P b ∧ d = .bl b)) : ETP D (tB te) ρ P := fun σ B H l Q q => h σ B H l _ fun v x B1 H1 px g1 h1 => by
  obtain ⟨b, pb, rfl⟩ := px
  exact ⟨b, h1, q _ B1 H1 pb g1⟩
theorem et_and {a b : Bool} (h1 : ET D tt ρ a) (h2 : a = true → ET D tu ρ b) : ET D (tAnd tt tu) ρ (a && b) := fun σ B H l Q q => h1 σ B H l _ fun c B1 H1 pc g1 => by
  subst pc
  cases c with
  | true =>
    show tu σ H1 Q
    exact h2 rfl σ B1 H1 (l.gr g1) Q fun c B2 H2 pc g2 => q c B2 H2 pc (g1.trans g2)
  | false => exact q false B1 H1 rfl g1
theorem et_or {a b : Bool} (h1 : ET D tt ρ a) (h2 : a = false → ET D tu ρ b) : ET D (tOr tt tu) ρ (a || b) := fun σ B H l Q q => h1 σ B H l _ fun c B1 H1 pc g1 => by
  subst pc
  cases c with
  | false =>
    show tu σ H1 Q
    exact h2 rfl σ B1 H1 (l.gr g1) Q fun c B2 H2 pc g2 => q c B2 H2 pc (g1.trans g2)
  | true => exact q true B1 H1 rfl g1
theorem et_not {a : Bool} (h1 : ET D tt ρ a) : ET D (tNot tt) ρ (!a) := fun σ B H l Q q => h1 σ B H l _ fun c B1 H1 pc g1 => by
  subst pc
  exact q _ B1 H1 rfl g1
theorem et_to {a b : Bool} (h : ET D tt ρ a) (e : a = b) : ET D tt ρ b := e ▸ h
theorem et_yes : ET D tYes ρ true := fun σ B H l Q q => q _ B H rfl (Gr.refl l.ex)
theorem ev_andV {a b : Bool} (h1 : EV D ta ρ (.bl a)) (h2 : a = true → EV D tb ρ (.bl b)) : EV D (tAndV ta tb) ρ (.bl (a && b)) := fun σ B H l Q q => h1 σ B H l _ fun v x B1 H1 px g1 hv => by
  subst px
  refine ⟨a, hv, ?_⟩
  cases a with
  | true =>
    show tb σ H1 Q
    exact h2 rfl σ B1 H1 (l.gr g1) Q fun c d B2 H2 pc g2 => q c d B2 H2 pc (g1.trans g2)
  | false => exact q (.bl false) _ B1 H1 rfl g1 rfl
theorem ev_orV {a b : Bool} (h1 : EV D ta ρ (.bl a)) (h2 : a = false → EV D tb ρ (.bl b)) : EV D (tOrV ta tb) ρ (.bl (a || b)) := fun σ B H l Q q => h1 σ B H l _ fun v x B1 H1 px g1 hv => by
  subst px
  refine ⟨a, hv, ?_⟩
  cases a with
  | false =>
    show tb σ H1 Q
    exact h2 rfl σ B1 H1 (l.gr g1) Q fun c d B2 H2 pc g2 => q c d B2 H2 pc (g1.trans g2)
  | true => exact q (.bl true) _ B1 H1 rfl g1 rfl
theorem ev_notV {a : Bool} (h1 : EV D ta ρ (.bl a)) : EV D (tNotV ta) ρ (.bl (!a)) := fun σ B H l Q q => h1 σ B H l _ fun v x B1 H1 px g1 hv => by
  subst px
  exact ⟨a, hv, q _ _ B1 H1 rfl g1 rfl⟩
theorem evp_if {b : Bool} (h : ET D tt ρ b) (h1 : b = true → EVP D ta ρ P) (h2 : b = false → EVP D tb ρ P) : EVP D (tIf tt ta tb) ρ P := fun σ B H l Q q => h σ B H l _ fun c B1 H1 pc g1 => by
  subst pc
  cases c with
  | true =>
    show ta σ H1 Q
    exact h1 rfl σ B1 H1 (l.gr g1) Q fun c d B2 H2 pc g2 => q c d B2 H2 pc (g1.trans g2)
  | false =>
    show tb σ H1 Q
    exact h2 rfl σ B1 H1 (l.gr g1) Q fun c d B2 H2 pc g2 => q c d B2 H2 pc (g1.trans g2)
theorem ev_if {b : Bool} (h : ET D tt ρ b) (h1 : b = true → EV D ta ρ d) (h2 : b = false → EV D tb ρ d) : EV D (tIf tt ta tb) ρ d := evp_if h h1 h2
/-- truth of a list or tuple -/
theorem et_truL {K : PySem.W.Frag} {ds : List Dt} (h : EV D ta ρ (.lst ds)) : ET D (fun σ H Q => ta σ H fun x H' => ∃ k, TruV K x H' k ∧ Q k H') ρ (!ds.isEmpty) := fun σ B H l Q q => h σ B H l _ fun v x B1 H1 px g1 hv => by
  subst px
  obtain ⟨a, xs, rfl, ha, hl⟩ := hv
  refine ⟨_, Or.inl ⟨xs, SqL.of (g1.i a _ ha), rfl⟩, q _ B1 H1 ?_ g1⟩
  have e := hl.length
  cases xs <;> cases ds <;> first | rfl | simp at e
theorem et_truT {K : PySem.W.Frag} {ds : List Dt} (h : EV D ta ρ (.tup ds)) : ET D (fun σ H Q => ta σ H fun x H' => ∃ k, TruV K x H' k ∧ Q k H') ρ (!ds.isEmpty) := fun σ B H l Q q => h σ B H l _ fun v x B1 H1 px g1 hv => by
  subst px
  obtain ⟨a, xs, rfl, ha, hl⟩ := hv
  refine ⟨_, Or.inr (Or.inl ⟨xs, SqT.of (g1.i a _ ha), rfl⟩), q _ B1 H1 ?_ g1⟩
  have e := hl.length
  cases xs <;> cases ds <;> first | rfl | simp at e

/-! ### arguments, displays -/
theorem ea_nil : EA D tNil ρ [] := fun σ B H l Q q => q [] [] B H rfl (Gr.refl l.ex) rfl
theorem eap_cons {tr : TA} {Px : Dt → Prop} {Pr : List Dt → Prop} (h : EVP D ta ρ Px) (hr : EAP D tr ρ Pr) : EAP D (tCons ta tr) ρ (fun l => ∃ x r, Px x ∧ Pr r ∧ l = x :: r) := fun σ B H l Q q => h σ B H l _ fun v x B1 H1 px g1 hv =>
  hr σ B1 H1 (l.gr g1) _ fun vs ds B2 H2 pd g2 hs => q (v :: vs) (x :: ds) B2 H2 ⟨x, ds, px, pd, rfl⟩ (g1.trans g2) (HasL.cons (hv.mono g2.b) hs)
theorem ea_cons {tr : TA} (h : EV D ta ρ x) (hr : EA D tr ρ ds) : EA D (tCons ta tr) ρ (x :: ds) := fun σ B H l Q q => h σ B H l _ fun v y B1 H1 px g1 hv =>
  hr σ B1 H1 (l.gr g1) _ fun vs es B2 H2 pd g2 hs => q (v :: vs) (y :: es) B2 H2 (by rw [px, pd]) (g1.trans g2) (HasL.cons (hv.mono g2.b) hs)
theorem ea_one (h : EV D ta ρ x) : EA D (tCons ta tNil) ρ [x] := ea_cons h ea_nil
theorem sz5 {n : Nat} (h : n ≤ 100000) : n ≤ sizeLine := Nat.le_trans h (by decide)
theorem evp_tup {tr : TA} {Pr : List Dt → Prop} (h : EAP D tr ρ Pr) (hz : ∀ l, Pr l → l.length ≤ 100000) : EVP D (tTup tr) ρ (fun d => ∃ l, Pr l ∧ d = .tup l) := fun σ B H l Q q => h σ B H l _ fun vs ds B1 H1 pd g1 hs => by
  refine ⟨sz5 (by rw [hs.length]; exact hz _ pd), fun p hp => ?_⟩
  exact q (.ref p) (.tup ds) (upd B1 p (.tup vs)) _ ⟨ds, pd, rfl⟩ (g1.trans (Gr.new g1.i hp)) ⟨p, vs, rfl, upd_same, hs.mono (Ex.new (ex_none g1.i hp))⟩
theorem ev_tup {tr : TA} (h : EA D tr ρ ds) (hz : ds.length ≤ 100000 := by exact Nat.le_of_ble_eq_true rfl) : EV D (tTup tr) ρ (.tup ds) := EVP.imp (evp_tup h fun l e => by rw [e]; exact hz) fun d ⟨l, e, q⟩ => by rw [q, e]
theorem eop_lst {tr : TA} {Pr : List Dt → Prop} (h : EAP D tr ρ Pr) (hz : ∀ l, Pr l → l.length ≤ 100000) : EOP D (tLst tr) ρ Pr := fun σ B H l Q q => h σ B H l _ fun vs ds B1 H1 pd g1 hs => by
  refine ⟨sz5 (by rw [hs.length]; exact hz _ pd), fun p hp => ?_⟩
  exact q p vs ds B1 _ pd (g1.trans (Gr.newO g1.i hp)) (g1.none_back l.ex l.dr hp) (ex_none g1.i hp) upd_same hs
theorem eo_lst {tr : TA} (h : EA D tr ρ ds) (hz : ds.length ≤ 100000 := by exact Nat.le_of_ble_eq_true rfl) : EO D (tLst tr) ρ ds := eop_lst h fun l e => by rw [e]; exact hz

/-! ### items, slices, sums -/
theorem atI_some {xs : List V} {ds : List Dt} {B : Hp} {i : Nat} (h : HasL ds xs B) (hd : ds[i]? = some d) : ∃ v, atI xs (i : Int) = some v ∧ Has d v B := by
  obtain ⟨v, e, hv⟩ := h.get' hd
  refine ⟨v, ?_, hv⟩
  unfold atI ixN
  have l : i < xs.length := (List.getElem?_eq_some_iff.mp e).1
  rw [if_pos (by omega), if_pos (by omega)]
  show xs[((i : Int)).toNat]? = some v
  rw [Int.toNat_natCast]
  exact e
theorem ev_ixL {K : PySem.W.Frag} {i : Nat} (ha : EV D ta ρ (.lst ds)) (hb : EV D tb ρ (.int (i : Int))) (hd : ds[i]? = some d) : EV D (tOp (rIxL K) ta tb) ρ d := ev_op ha hb (rd_of fun v w B H e hx hy Q q => by
  obtain ⟨a, xs, rfl, ha, hl⟩ := hx
  obtain ⟨u, h1, h2⟩ := atI_some hl hd
  exact ⟨a, xs, (i : Int), u, rfl, hy, SqL.of (e a _ ha), h1, q u h2⟩)
theorem ev_ixT {K : PySem.W.Frag} {i : Nat} (ha : EV D ta ρ (.tup ds)) (hb : EV D tb ρ (.int (i : Int))) (hd : ds[i]? = some d) : EV D (tOp (rIxT K) ta tb) ρ d := ev_op ha hb (rd_of fun v w B H e hx hy Q q => by
  obtain ⟨a, xs, rfl, ha, hl⟩ := hx
  obtain ⟨u, h1, h2⟩ := atI_some hl hd
  exact ⟨a, xs, (i : Int), u, rfl, hy, SqT.of (e a _ ha), h1, q u h2⟩)
theorem evp_ixL {K : PySem.W.Frag} {Pl : List Dt → Prop} {Pi : Nat → Prop} (ha : EVP D ta ρ (fun e => ∃ l, Pl l ∧ e = .lst l)) (hb : EVP D tb ρ (fun e => ∃ i : Nat, Pi i ∧ e = .int (i : Int))) (hd : ∀ l i, Pl l → Pi i → ∃ d, l[i]? = some d ∧ P d) : EVP D (tOp (rIxL K) ta tb) ρ P := evp_op ha hb fun x y ⟨l, pl, ex⟩ ⟨i, pi, ey⟩ => by
  subst ex ey
  obtain ⟨d, h1, h2⟩ := hd l i pl pi
  refine fun v w B H e _ hx hy Q q => ?_
  obtain ⟨a, xs, rfl, ha, hl⟩ := hx
  obtain ⟨u, h3, h4⟩ := atI_some hl h1
  exact ⟨a, xs, (i : Int), u, rfl, hy, SqL.of (e a _ ha), h3, q u d B H h2 (Gr.refl e) h4⟩
theorem ev_cat (ha : EV D ta ρ (.lst ds)) (hb : EV D tb ρ (.lst es)) (hz : ds.length + es.length ≤ 100000) : EO D (tOp rCat ta tb) ρ (ds ++ es) := fun σ B H l Q q =>
  ha σ B H l _ fun v x B1 H1 px g1 h1 => hb σ B1 H1 (l.gr g1) _ fun w y B2 H2 py g2 h2 => by
    subst px py
    obtain ⟨a, xs, rfl, ha, hl⟩ := h1
    obtain ⟨b, ys, rfl, hb, hm⟩ := h2
    refine ⟨a, b, xs, ys, rfl, rfl, g2.i a _ (g2.b a _ ha), g2.i b _ hb, sz5 (by rw [hl.length, hm.length]; exact hz), fun p hp => ?_⟩
    exact q p _ _ B2 _ rfl ((g1.trans g2).trans (Gr.newO g2.i hp)) ((g1.trans g2).none_back l.ex l.dr hp) (ex_none g2.i hp) upd_same ((hl.mono g2.b).append hm)
theorem ev_catT {K : PySem.W.Frag} (ha : EV D ta ρ (.tup ds)) (hb : EV D tb ρ (.tup es)) (hz : ds.length + es.length ≤ 100000) : EV D (tOp (rCatA K) ta tb) ρ (.tup (ds ++ es)) := ev_op ha hb fun v w B H e _ hx hy Q q => by
  obtain ⟨a, xs, rfl, ha, hl⟩ := hx
  obtain ⟨b, ys, rfl, hb, hm⟩ := hy
  refine ⟨a, b, xs, ys, rfl, rfl, SqT.of (e a _ ha), SqT.of (e b _ hb), sz5 (by rw [hl.length, hm.length]; exact hz), fun hn => ?_, fun hn hm' => ?_, fun hn hm' p hp => ?_⟩
  · subst hn
    have z : ds = [] := by
      have := hl.length
      cases ds with
      | nil => rfl
      | cons _ _ => simp at this
    subst z
    exact q _ _ B H rfl (Gr.refl e) ⟨b, ys, rfl, hb, hm⟩
  · subst hm'
    have z : es = [] := by
      have := hm.length
      cases es with
      | nil => rfl
      | cons _ _ => simp at this
    subst z
    exact q _ _ B H rfl (Gr.refl e) ⟨a, xs, rfl, ha, by rw [List.append_nil]; exact hl⟩
  · exact q _ _ (upd B p (.tup (xs ++ ys))) _ rfl (Gr.new e hp) ⟨p, _, rfl, upd_same, (hl.append hm).mono (Ex.new (ex_none e hp))⟩
/-! ### parts of a slice -/
theorem eo_none : EPo D tNoPart ρ none := fun σ B H l Q q => q B H (Gr.refl l.ex)
theorem eo_some {i : Int} (h : EV D te ρ (.int i)) : EPo D (tPart te) ρ (some i) := fun σ B H l Q q => h σ B H l _ fun v x B1 H1 px g1 hv => by
  subst px
  exact ⟨i, hv, q B1 H1 g1⟩
def cutD (ds : List Dt) (lo hi : Option Int) : List Dt := (ds.drop (HT.sIx ds.length 0 lo)).take (HT.sIx ds.length ds.length hi - HT.sIx ds.length 0 lo)
theorem has_cut {xs : List V} {B : Hp} {lo hi : Option Int} (h : HasL ds xs B) : HasL (cutD ds lo hi) (cutV xs lo hi) B := by
  unfold cutD cutV
  rw [h.length]
  exact (h.drop _).take _
theorem eo_sl {K : PySem.W.Frag} {tl th : TO} {lo hi : Option Int} (ha : EV D ta ρ (.lst ds)) (hl : EPo D tl ρ lo) (hh : EPo D th ρ hi) : EO D (tSl (rSlL K) ta tl th) ρ (cutD ds lo hi) := fun σ B H l Q q =>
  ha σ B H l _ fun v x B1 H1 px g1 h1 => hl σ B1 H1 (l.gr g1) _ fun B2 H2 g2 => hh σ B2 H2 ((l.gr g1).gr g2) _ fun B3 H3 g3 => by
    subst px
    obtain ⟨a, xs, rfl, ha, hs⟩ := h1
    have g := (g1.trans g2).trans g3
    refine ⟨a, xs, rfl, SqL.of (g3.i a _ (g3.b a _ (g2.b a _ ha))), fun p hp => ?_⟩
    exact q p _ _ B3 _ rfl (g.trans (Gr.newO g3.i hp)) (g.none_back l.ex l.dr hp) (ex_none g3.i hp) upd_same (has_cut ((hs.mono g2.b).mono g3.b))
theorem ev_slT {K : PySem.W.Frag} {tl th : TO} {lo hi : Option Int} (ha : EV D ta ρ (.tup ds)) (hl : EPo D tl ρ lo) (hh : EPo D th ρ hi) : EV D (tSl (rSlA K) ta tl th) ρ (.tup (cutD ds lo hi)) := fun σ B H l Q q =>
  ha σ B H l _ fun v x B1 H1 px g1 h1 => hl σ B1 H1 (l.gr g1) _ fun B2 H2 g2 => hh σ B2 H2 ((l.gr g1).gr g2) _ fun B3 H3 g3 => by
    subst px
    obtain ⟨a, xs, rfl, ha, hs⟩ := h1
    have g := (g1.trans g2).trans g3
    have e : xs.length = ds.length := hs.length
    refine ⟨a, xs, rfl, SqT.of (g3.i a _ (g3.b a _ (g2.b a _ ha))), fun hw => ?_, fun hw p hp => ?_⟩
    · refine q _ _ B3 H3 rfl g ⟨a, xs, rfl, g3.b a _ (g2.b a _ ha), ?_⟩
      have z : cutD ds lo hi = ds := by
        unfold cutD
        rw [← e, hw.1, hw.2, List.drop_zero, Nat.sub_zero, e, List.take_length]
      rw [z]
      exact (hs.mono g2.b).mono g3.b
    · exact q _ _ (upd B3 p (.tup (cutV xs lo hi))) _ rfl (g.trans (Gr.new g3.i hp)) ⟨p, _, rfl, upd_same, (has_cut ((hs.mono g2.b).mono g3.b)).mono (Ex.new (ex_none g3.i hp))⟩

/-! ### membership of ints -/
theorem eqV_int (a b : Int) : eqV (.int a) (.int b) = (a == b) := rfl
theorem inV_ints {i : Int} : ∀ {ns : List Int}, inV (.int i) (ns.map V.int) = decide (i ∈ ns)
  | [] => by simp [inV]
  | n :: ns => by
    have ih := inV_ints (i := i) (ns := ns)
    unfold inV at ih ⊢
    rw [List.map_cons, List.any_cons, ih, eqV_int]
    by_cases h : i = n
    · subst h
      simp
    · have h' : (n == i) = false := by simpa using fun z => h z.symm
      rw [h', Bool.false_or]
      exact decide_eq_decide.mpr ⟨fun z => List.mem_cons_of_mem _ z, fun z => (List.mem_cons.mp z).resolve_left h⟩
theorem flat_ints (ns : List Int) : (ns.map V.int).all flatV = true := by
  rw [List.all_eq_true]
  intro x hx
  obtain ⟨n, _, rfl⟩ := List.mem_map.mp hx
  rfl
theorem sq_ints {K : PySem.W.Frag} {B H : Hp} {w : V} {ns : List Int} {y : Dt} (hy : y = .tup (intsD ns) ∨ y = .lst (intsD ns)) (h : Has y w B) (e : Ex B H) : ∃ p, w = .ref p ∧ (SqL K H p (ns.map V.int) ∨ SqT K H p (ns.map V.int)) := by
  rcases hy with rfl | rfl
  · obtain ⟨a, xs, rfl, ha, hl⟩ := h
    rw [hasL_ints.mp hl] at ha
    exact ⟨a, rfl, Or.inr (SqT.of (e a _ ha))⟩
  · obtain ⟨a, xs, rfl, ha, hl⟩ := h
    rw [hasL_ints.mp hl] at ha
    exact ⟨a, rfl, Or.inl (SqL.of (e a _ ha))⟩
theorem rd_in {K : PySem.W.Frag} {i : Int} {ns : List Int} (hy : y = .tup (intsD ns) ∨ y = .lst (intsD ns)) : RD D (rIn K false) (.int i) y (fun e => e = .bl (decide (i ∈ ns))) := rd_of fun v w B H e hx hw Q q => by
  obtain ⟨p, rfl, hs⟩ := sq_ints (K := K) hy hw e
  have e1 : v = .int i := hx
  subst e1
  refine ⟨p, _, rfl, hs, rfl, flat_ints ns, q _ ?_⟩
  show V.bl (inV (.int i) (ns.map V.int)) = _
  rw [inV_ints]
theorem rd_notIn {K : PySem.W.Frag} {i : Int} {ns : List Int} (hy : y = .tup (intsD ns) ∨ y = .lst (intsD ns)) : RD D (rIn K true) (.int i) y (fun e => e = .bl (!decide (i ∈ ns))) := rd_of fun v w B H e hx hw Q q => by
  obtain ⟨p, rfl, hs⟩ := sq_ints (K := K) hy hw e
  have e1 : v = .int i := hx
  subst e1
  refine ⟨p, _, rfl, hs, rfl, flat_ints ns, q _ ?_⟩
  show V.bl (!inV (.int i) (ns.map V.int)) = _
  rw [inV_ints]
theorem ev_in {K : PySem.W.Frag} {i : Int} {ns : List Int} (ha : EV D ta ρ (.int i)) (hb : EV D tb ρ (lotD ns)) : EV D (tOp (rIn K false) ta tb) ρ (.bl (decide (i ∈ ns))) := ev_op ha hb (rd_in (.inl rfl))
theorem ev_notIn {K : PySem.W.Frag} {i : Int} {ns : List Int} (ha : EV D ta ρ (.int i)) (hb : EV D tb ρ (lotD ns)) : EV D (tOp (rIn K true) ta tb) ρ (.bl (!decide (i ∈ ns))) := ev_op ha hb (rd_notIn (.inl rfl))
theorem ev_inL {K : PySem.W.Frag} {i : Int} {ns : List Int} (ha : EV D ta ρ (.int i)) (hb : EV D tb ρ (.lst (intsD ns))) : EV D (tOp (rIn K false) ta tb) ρ (.bl (decide (i ∈ ns))) := ev_op ha hb (rd_in (.inr rfl))
theorem ev_notInL {K : PySem.W.Frag} {i : Int} {ns : List Int} (ha : EV D ta ρ (.int i)) (hb : EV D tb ρ (.lst (intsD ns))) : EV D (tOp (rIn K true) ta tb) ρ (.bl (!decide (i ∈ ns))) := ev_op ha hb (rd_notIn (.inr rfl))

/-! ### built-ins by name -/
theorem ev_cb {r : List V → Hp → VK → Prop} {tr : TA} (h : EA D tr ρ ds) (hr : ∀ vs B H, Ex B H → HasL ds vs B → ∀ Q : VK, (∀ u, Has z u B → Q u H) → r vs H Q) : EV D (tCB r tr) ρ z := fun σ B H l Q q => h σ B H l _ fun vs es B1 H1 pd g1 hs => by
  subst pd
  exact hr vs B1 H1 g1.i hs Q fun u hu => q u _ B1 H1 rfl g1 hu
theorem ev_len {K : PySem.W.Frag} (h : EV D ta ρ d) (hd : d = .lst ds ∨ d = .tup ds) : EV D (tCB (fun xs H Q => ∃ p ys, xs = [.ref p] ∧ (SqL K H p ys ∨ SqT K H p ys) ∧ Q (.int ys.length) H) (tCons ta tNil)) ρ (.int (ds.length : Int)) :=
  ev_cb (ea_one h) fun vs B H e hs Q q => by
    obtain ⟨x, r, rfl, hx, hr⟩ := hs
    cases (show r = [] from hr)
    rcases hd with rfl | rfl
    · obtain ⟨a, xs, rfl, ha, hl⟩ := hx
      exact ⟨a, xs, rfl, .inl (SqL.of (e a _ ha)), q _ (by rw [hl.length]; rfl)⟩
    · obtain ⟨a, xs, rfl, ha, hl⟩ := hx
      exact ⟨a, xs, rfl, .inr (SqT.of (e a _ ha)), q _ (by rw [hl.length]; rfl)⟩
theorem ev_all {K : PySem.W.Frag} {bs : List Bool} (h : EV D ta ρ (.lst (boolsD bs))) : EV D (tCB (rAll K) (tCons ta tNil)) ρ (.bl (bs.all id)) :=
  ev_cb (ea_one h) fun vs B H e hs Q q => by
    obtain ⟨x, r, rfl, hx, hr⟩ := hs
    cases (show r = [] from hr)
    obtain ⟨a, xs, rfl, ha, hl⟩ := hx
    rw [hasL_bools.mp hl] at ha
    exact ⟨a, bs, rfl, SqL.of (e a _ ha), q _ rfl⟩
theorem ev_sum {K : PySem.W.Frag} {ns : List Int} (h : EV D ta ρ (.lst (intsD ns))) : EV D (tCB (rSum K) (tCons ta tNil)) ρ (.int ns.sum) :=
  ev_cb (ea_one h) fun vs B H e hs Q q => by
    obtain ⟨x, r, rfl, hx, hr⟩ := hs
    cases (show r = [] from hr)
    obtain ⟨a, xs, rfl, ha, hl⟩ := hx
    rw [hasL_ints.mp hl] at ha
    exact ⟨a, ns, rfl, SqL.of (e a _ ha), q _ rfl⟩
theorem ev_int1 {i : Int} (h : EV D ta ρ (.int i)) : EV D (tCB (fun xs H Q => (∃ i, xs = [.int i] ∧ Q (.int i) H) ∨ ∃ k, xs = [.bl k] ∧ Q (.int (if k then 1 else 0)) H) (tCons ta tNil)) ρ (.int i) :=
  ev_cb (ea_one h) fun vs B H e hs Q q => by
    obtain ⟨x, r, rfl, hx, hr⟩ := hs
    cases (show r = [] from hr)
    exact .inl ⟨i, by rw [show x = .int i from hx], q _ rfl⟩
/-- tuple(list), known -/
theorem evp_tuple {K : PySem.W.Frag} {PL : List Dt → Prop} (h : EVP D ta ρ (fun d => ∃ ds, PL ds ∧ d = .lst ds)) : EVP D (tCB (fun xs H Q => ∃ p ys, xs = [.ref p] ∧ ((SqL K H p ys ∧ ∀ l, H l = none → Q (.ref l) (upd H l (.tup ys))) ∨ (SqT K H p ys ∧ Q (.ref p) H))) (tCons ta tNil)) ρ (fun d => ∃ ds, PL ds ∧ d = .tup ds) := fun σ B H l Q q =>
  h σ B H l _ fun v x B1 H1 px g1 hv => by
    obtain ⟨ds, pl, rfl⟩ := px
    obtain ⟨a, xs, rfl, ha, hl⟩ := hv
    refine ⟨a, xs, rfl, .inl ⟨SqL.of (g1.i a _ ha), fun p hp => ?_⟩⟩
    exact q _ _ (upd B1 p (.tup xs)) _ ⟨ds, pl, rfl⟩ (g1.trans (Gr.new g1.i hp)) ⟨p, xs, rfl, upd_same, hl.mono (Ex.new (ex_none g1.i hp))⟩
theorem ev_tuple {K : PySem.W.Frag} (h : EV D ta ρ (.lst ds)) : EV D (tCB (fun xs H Q => ∃ p ys, xs = [.ref p] ∧ ((SqL K H p ys ∧ ∀ l, H l = none → Q (.ref l) (upd H l (.tup ys))) ∨ (SqT K H p ys ∧ Q (.ref p) H))) (tCons ta tNil)) ρ (.tup ds) :=
  EVP.imp (evp_tuple (PL := fun l => l = ds) (EVP.imp h fun d e => ⟨ds, rfl, e⟩)) fun d ⟨l, e, q⟩ => by rw [q, e]
theorem ev_tupleT {K : PySem.W.Frag} (h : EV D ta ρ (.tup ds)) : EV D (tCB (fun xs H Q => ∃ p ys, xs = [.ref p] ∧ ((SqL K H p ys ∧ ∀ l, H l = none → Q (.ref l) (upd H l (.tup ys))) ∨ (SqT K H p ys ∧ Q (.ref p) H))) (tCons ta tNil)) ρ (.tup ds) := fun σ B H l Q q =>
  h σ B H l _ fun v x B1 H1 px g1 hv => by
    subst px
    obtain ⟨a, xs, rfl, ha, hl⟩ := hv
    exact ⟨a, xs, rfl, .inr ⟨SqT.of (g1.i a _ ha), q _ _ B1 H1 rfl g1 ⟨a, xs, rfl, ha, hl⟩⟩⟩
/-- list(list or tuple): new -/
theorem eo_list {K : PySem.W.Frag} (h : EV D ta ρ d) (hd : d = .lst ds ∨ d = .tup ds) : EO D (tCB (fun xs H Q => ∃ p ys, xs = [.ref p] ∧ (SqL K H p ys ∨ SqT K H p ys) ∧ ∀ l, H l = none → Q (.ref l) (upd H l (.lst ys))) (tCons ta tNil)) ρ ds := fun σ B H l Q q =>
  h σ B H l _ fun v x B1 H1 px g1 hv => by
    subst px
    rcases hd with rfl | rfl
    · obtain ⟨a, xs, rfl, ha, hl⟩ := hv
      exact ⟨a, xs, rfl, .inl (SqL.of (g1.i a _ ha)), fun p hp => q p xs ds B1 _ rfl (g1.trans (Gr.newO g1.i hp)) (g1.none_back l.ex l.dr hp) (ex_none g1.i hp) upd_same hl⟩
    · obtain ⟨a, xs, rfl, ha, hl⟩ := hv
      exact ⟨a, xs, rfl, .inr (SqT.of (g1.i a _ ha)), fun p hp => q p xs ds B1 _ rfl (g1.trans (Gr.newO g1.i hp)) (g1.none_back l.ex l.dr hp) (ex_none g1.i hp) upd_same hl⟩
/-! ### fields of a Told -/
theorem ev_fldW {K : PySem.W.Frag} {C : Addr} {n : Int} {c : Dt} (h : EV D ta ρ (.told C n c)) (hc : Cls K C) (hn : NoAttr K C "worlds") : EV D (tFld K ta "worlds") ρ (.int n) := fun σ B H l Q q => h σ B H l _ fun v x B1 H1 px g1 hv => by
  subst px
  obtain ⟨a, dx, fs, x, rfl, ha, h1, h2, h3⟩ := hv
  exact ⟨a, C, dx, fs, _, rfl, g1.i a _ ha, hc, hn, h1, q _ _ B1 H1 rfl g1 rfl⟩
theorem ev_fldC {K : PySem.W.Frag} {C : Addr} {n : Int} {c : Dt} (h : EV D ta ρ (.told C n c)) (hc : Cls K C) (hn : NoAttr K C "cases") : EV D (tFld K ta "cases") ρ c := fun σ B H l Q q => h σ B H l _ fun v x B1 H1 px g1 hv => by
  subst px
  obtain ⟨a, dx, fs, x, rfl, ha, h1, h2, h3⟩ := hv
  exact ⟨a, C, dx, fs, _, rfl, g1.i a _ ha, hc, hn, h2, q _ _ B1 H1 rfl g1 h3⟩
theorem ev_fldTW {K : PySem.W.Frag} {C : Addr} {n : Int} {c : Dt} {ps : List (List Int × List Int)} (h : EV D ta ρ (.tbl C n c ps)) (hc : Cls K C) (hn : NoAttr K C "worlds") : EV D (tFld K ta "worlds") ρ (.int n) := fun σ B H l Q q => h σ B H l _ fun v x B1 H1 px g1 hv => by
  subst px
  obtain ⟨a, dx, fs, x, b, ks, rfl, ha, h1, h2, h3, _⟩ := hv
  exact ⟨a, C, dx, fs, _, rfl, g1.i a _ ha, hc, hn, h1, q _ _ B1 H1 rfl g1 rfl⟩
theorem ev_fldTP {K : PySem.W.Frag} {C : Addr} {n : Int} {c : Dt} {ps : List (List Int × List Int)} (h : EV D ta ρ (.tbl C n c ps)) (hc : Cls K C) (hn : NoAttr K C "pairs") : EV D (tFld K ta "pairs") ρ c := fun σ B H l Q q => h σ B H l _ fun v x B1 H1 px g1 hv => by
  subst px
  obtain ⟨a, dx, fs, x, b, ks, rfl, ha, h1, h2, h3, _⟩ := hv
  exact ⟨a, C, dx, fs, _, rfl, g1.i a _ ha, hc, hn, h2, q _ _ B1 H1 rfl g1 h3⟩
end
end K37
/-! K37C: targets, walks, comprehensions, calls, statements. -/
namespace K37
open PySem L2
open Evl (Ex)

/-! ### targets -/
def EG (g : TG) (d : Dt) (l : List (Nat × Dt)) : Prop :=
  ∀ σ B H x, Ex B H → Has d x B → ∀ Q : L2.St → Hp → Prop, (∀ vs : List V, HasL (l.map (·.2)) vs B → Q (setV σ (l.map (·.1)) vs) H) → g x σ H Q
def EGs (g : TGs) (ds : List Dt) (l : List (Nat × Dt)) : Prop :=
  ∀ σ B H xs, Ex B H → HasL ds xs B → ∀ Q : L2.St → Hp → Prop, (∀ vs : List V, HasL (l.map (·.2)) vs B → Q (setV σ (l.map (·.1)) vs) H) → g xs σ H Q
theorem eg_name {j : Nat} {d : Dt} : EG (gName j) d [(j, d)] := fun σ B H x e h Q q => q [x] (HasL.one h)
theorem setV_app : ∀ (js ks : List Nat) (vs ws : List V) (σ : L2.St), js.length = vs.length → setV σ (js ++ ks) (vs ++ ws) = setV (setV σ js vs) ks ws
  | [], ks, [], ws, σ, _ => rfl
  | j :: js, ks, v :: vs, ws, σ, h => setV_app js ks vs ws (σ.set j (some v)) (by simpa using h)
theorem egs_nil : EGs gNil [] [] := fun σ B H x e h Q q => ⟨h, q [] rfl⟩
theorem egs_cons {g : TG} {gs : TGs} {d : Dt} {ds : List Dt} {l m : List (Nat × Dt)} (h1 : EG g d l) (h2 : EGs gs ds m) : EGs (gCons g gs) (d :: ds) (l ++ m) := fun σ B H xs e h Q q => by
  obtain ⟨x, r, rfl, hx, hr⟩ := h
  refine ⟨x, r, rfl, h1 σ B H x e hx _ fun vs hv => h2 _ B H r e hr _ fun ws hw => ?_⟩
  have z := q (vs ++ ws) (by rw [List.map_append]; exact hv.append hw)
  rw [List.map_append, setV_app _ _ _ _ _ (by rw [hv.length, List.length_map, List.length_map])] at z
  exact z
theorem eg_tup {K : PySem.W.Frag} {n : Nat} {gs : TGs} {ds : List Dt} {l : List (Nat × Dt)} (h : EGs gs ds l) (hn : ds.length = n) : EG (gTup K n gs) (.tup ds) l := fun σ B H x e hx Q q => by
  obtain ⟨a, xs, rfl, ha, hl⟩ := hx
  exact ⟨a, xs, rfl, SqT.of (e a _ ha), by rw [hl.length, hn], h σ B H xs e hl Q q⟩
theorem eg_two {K : PySem.W.Frag} {i j : Nat} {a b : Dt} : EG (gTup K 2 (gCons (gName i) (gCons (gName j) gNil))) (.tup [a, b]) [(i, a), (j, b)] := eg_tup (egs_cons (l := [(i, a)]) eg_name (egs_cons (l := [(j, b)]) (m := []) eg_name egs_nil)) rfl

/-! ### walks -/
structure WalkD (J : It) (ds : List Dt) (B : Hp) : Prop where
  goes : ∀ i H, i < ds.length → Ex B H → J.go i H
  stops : ∀ H, Ex B H → J.stop ds.length H
  yields : ∀ i B1 H x H', i < ds.length → Ex B B1 → Ex B1 H → J.yld i H x H' → ∃ d B2, ds[i]? = some d ∧ (∀ D, Gr D B1 H B2 H') ∧ Has d x B2
def EIP (D : Option Addr) (wi : TI) (ρ : List Sl) (P : List Dt → Prop) : Prop :=
  ∀ σ B H, Rl D ρ σ B H → ∀ R : It → Hp → Prop, (∀ J ds B2 H2, P ds → Gr D B H B2 H2 → WalkD J ds B2 → R J H2) → wi σ H R
abbrev EI (D : Option Addr) (wi : TI) (ρ : List Sl) (ds : List Dt) : Prop := EIP D wi ρ (fun e => e = ds)
theorem walkD_list {K : PySem.W.Frag} {a : Addr} {xs : List V} {ds : List Dt} {B : Hp} (h : B a = some (.lst xs)) (hl : HasL ds xs B) : WalkD (Itl K a) ds B where
  goes := fun i H hi e => ⟨xs, xs[i]'(by rw [hl.length]; exact hi), SqL.of (e a _ h), by simp⟩
  stops := fun H e => ⟨xs, SqL.of (e a _ h), by rw [hl.length]; exact Nat.le_refl _⟩
  yields := fun i B1 H x H' hi e1 e2 y => by
    obtain ⟨rfl, y⟩ := y
    obtain ⟨d, q, hd⟩ := hl.get (y xs (SqL.of (e2 a _ (e1 a _ h))))
    exact ⟨d, B1, q, fun D => Gr.refl e2, hd.mono e1⟩
theorem walkD_tup {K : PySem.W.Frag} {a : Addr} {xs : List V} {ds : List Dt} {B : Hp} (h : B a = some (.tup xs)) (hl : HasL ds xs B) : WalkD (Itt K a) ds B where
  goes := fun i H hi e => ⟨xs, xs[i]'(by rw [hl.length]; exact hi), SqT.of (e a _ h), by simp⟩
  stops := fun H e => ⟨xs, SqT.of (e a _ h), by rw [hl.length]; exact Nat.le_refl _⟩
  yields := fun i B1 H x H' hi e1 e2 y => by
    obtain ⟨rfl, y⟩ := y
    obtain ⟨d, q, hd⟩ := hl.get (y xs (SqT.of (e2 a _ (e1 a _ h))))
    exact ⟨d, B1, q, fun D => Gr.refl e2, hd.mono e1⟩
def rangeD (lo : Int) (n : Nat) : List Dt := (List.range n).map fun i => Dt.int (lo + (i : Nat))
theorem rangeD_len {lo : Int} {n : Nat} : (rangeD lo n).length = n := by
  unfold rangeD
  rw [List.length_map, List.length_range]
theorem rangeD_get {lo : Int} {n i : Nat} (h : i < n) : (rangeD lo n)[i]? = some (.int (lo + (i : Nat))) := by
  unfold rangeD
  rw [List.getElem?_map, List.getElem?_range h]
  rfl
theorem walkD_range {lo : Int} {n : Nat} {B : Hp} : WalkD (Itr lo n) (rangeD lo n) B where
  goes := fun i H hi e => by
    rw [rangeD_len] at hi
    exact hi
  stops := fun H e => by
    rw [rangeD_len]
    exact Nat.le_refl n
  yields := fun i B1 H x H' hi e1 e2 y => by
    obtain ⟨rfl, rfl⟩ := y
    rw [rangeD_len] at hi
    exact ⟨_, B1, rangeD_get hi, fun D => Gr.refl e2, rfl⟩
/-- enumerate -/
def enumD : Nat → List Dt → List Dt
  | _, [] => []
  | i, d :: ds => .tup [.int (i : Nat), d] :: enumD (i + 1) ds
theorem enumD_len : ∀ (ds : List Dt) (k : Nat), (enumD k ds).length = ds.length
  | [], _ => rfl
  | d :: ds, k => congrArg Nat.succ (enumD_len ds (k + 1))
theorem enumD_get : ∀ (ds : List Dt) (k i : Nat), (enumD k ds)[i]? = (ds[i]?).map fun d => Dt.tup [.int ((k + i : Nat) : Int), d]
  | [], _, _ => rfl
  | d :: ds, k, 0 => rfl
  | d :: ds, k, i + 1 => by
    show (enumD (k + 1) ds)[i]? = (ds[i]?).map _
    rw [enumD_get ds (k + 1) i]
    have e : k + 1 + i = k + (i + 1) := by omega
    rw [e]
theorem walkD_enum {K : PySem.W.Frag} {a : Addr} {xs : List V} {ds : List Dt} {B : Hp} (h : B a = some (.lst xs)) (hl : HasL ds xs B) : WalkD (Ite K a) (enumD 0 ds) B where
  goes := fun i H hi e => by
    rw [enumD_len] at hi
    exact (walk_enum (K := K) (a := a) (xs := xs)).goes i H (by rw [hl.length]; exact hi) (SqL.of (e a _ h))
  stops := fun H e => by
    rw [enumD_len, ← hl.length]
    exact (walk_enum (K := K) (a := a) (xs := xs)).stops H (SqL.of (e a _ h))
  yields := fun i B1 H x H' hi e1 e2 y => by
    rw [enumD_len] at hi
    obtain ⟨T, u, w, rfl, hT, rfl, h1, h2⟩ := (walk_enum (K := K) (a := a) (xs := xs)).yields i H x H' (by rw [hl.length]; exact hi) (SqL.of (e2 a _ (e1 a _ h))) y
    have eu : u = .int (i : Nat) := (Option.some.inj h1).symm
    subst eu
    obtain ⟨d, q, hd⟩ := hl.get h2
    refine ⟨.tup [.int ((i : Nat) : Int), d], upd B1 T (.tup [.int (i : Nat), w]), ?_, fun D => Gr.new e2 hT, ⟨T, _, rfl, upd_same, ?_⟩⟩
    · rw [enumD_get, q, Nat.zero_add]
      rfl
    · exact HasL.cons rfl (HasL.one ((hd.mono e1).mono (Ex.new (ex_none e2 hT))))
section
variable {D : Option Addr} {ρ : List Sl} {ta tb te : TE} {ds : List Dt}
theorem eip_list {K : PySem.W.Frag} {P : List Dt → Prop} (h : EVP D te ρ (fun d => ∃ ds, P ds ∧ d = .lst ds)) : EIP D (iList K te) ρ P := fun σ B H l R q => h σ B H l _ fun v x B1 H1 px g1 hv => by
  obtain ⟨ds, pd, rfl⟩ := px
  obtain ⟨a, xs, rfl, ha, hl⟩ := hv
  exact ⟨a, rfl, ⟨xs, SqL.of (g1.i a _ ha)⟩, q _ ds B1 H1 pd g1 (walkD_list ha hl)⟩
theorem ei_list {K : PySem.W.Frag} (h : EV D te ρ (.lst ds)) : EI D (iList K te) ρ ds := eip_list (EVP.imp h fun d e => ⟨ds, rfl, e⟩)
theorem eip_tup {K : PySem.W.Frag} {P : List Dt → Prop} (h : EVP D te ρ (fun d => ∃ ds, P ds ∧ d = .tup ds)) : EIP D (iTup K te) ρ P := fun σ B H l R q => h σ B H l _ fun v x B1 H1 px g1 hv => by
  obtain ⟨ds, pd, rfl⟩ := px
  obtain ⟨a, xs, rfl, ha, hl⟩ := hv
  exact ⟨a, rfl, ⟨xs, SqT.of (g1.i a _ ha)⟩, q _ ds B1 H1 pd g1 (walkD_tup ha hl)⟩
theorem ei_tup {K : PySem.W.Frag} (h : EV D te ρ (.tup ds)) : EI D (iTup K te) ρ ds := eip_tup (EVP.imp h fun d e => ⟨ds, rfl, e⟩)
theorem eip_rng1 {P : Int → Prop} (h : EVP D te ρ (fun d => ∃ n : Int, P n ∧ d = .int n)) (hn : ∀ n, P n → -100000 ≤ n ∧ n ≤ 100000) : EIP D (iRng1 (tCons te tNil)) ρ (fun ds => ∃ n : Int, P n ∧ ds = rangeD 0 n.toNat) := fun σ B H l R q => h σ B H l _ fun v x B1 H1 px g1 hv => by
  obtain ⟨n, pn, rfl⟩ := px
  have b := hn n pn
  exact ⟨n, by rw [show v = .int n from hv], by omega, by omega, q _ _ B1 H1 ⟨n, pn, rfl⟩ g1 walkD_range⟩
theorem ei_rng1 {n : Nat} (h : EV D te ρ (.int (n : Int))) (hn : n ≤ 100000) : EI D (iRng1 (tCons te tNil)) ρ (rangeD 0 n) := by
  have z := eip_rng1 (P := fun m => m = (n : Int)) (EVP.imp h fun d e => ⟨(n : Int), rfl, e⟩) (fun m e => by subst e; omega)
  exact fun σ B H l R q => z σ B H l R fun J ds B2 H2 ⟨m, e, e2⟩ g w => q J ds B2 H2 (by rw [e2, e, Int.toNat_natCast]) g w
theorem ei_rng2 {a b : Int} (h : EV D ta ρ (.int a)) (h' : EV D tb ρ (.int b)) (ha : -100000 ≤ a ∧ a ≤ 100000) (hb : -100000 ≤ b ∧ b ≤ 100000) : EI D (iRng2 (tCons ta (tCons tb tNil))) ρ (rangeD a (b - a).toNat) := fun σ B H l R q => h σ B H l _ fun v x B1 H1 px g1 hv =>
  h' σ B1 H1 (l.gr g1) _ fun w y B2 H2 py g2 hw => by
    subst px py
    exact ⟨a, b, by rw [show v = .int a from hv, show w = .int b from hw], by omega, q _ _ B2 H2 rfl (g1.trans g2) walkD_range⟩
theorem ei_enum {K : PySem.W.Frag} (h : EV D te ρ (.lst ds)) : EI D (iEnum K (tCons te tNil)) ρ (enumD 0 ds) := fun σ B H l R q => h σ B H l _ fun v x B1 H1 px g1 hv => by
  subst px
  obtain ⟨a, xs, rfl, ha, hl⟩ := hv
  exact ⟨a, xs, rfl, SqL.of (g1.i a _ ha), q _ _ B1 H1 rfl g1 (walkD_enum ha hl)⟩
end

/-! ### comprehensions -/
section
variable {D : Option Addr} {ρ : List Sl} {te : TE} {tt : TT} {wi : TI} {g : TG} {vs : List Nat} {α : Type}
/-- what holds behind i turns: the list at p holds es -/
def CI (D : Option Addr) (B0 H0 : Hp) (p : Addr) (Pv : Nat → List Dt → Prop) (i : Nat) (H : Hp) : Prop :=
  ∃ B xs es, Gr D B0 H0 B H ∧ B p = none ∧ H p = some (.lst xs) ∧ HasL es xs B ∧ Pv i es
theorem eop_lc (f : α → Dt) (l : α → List (Nat × Dt)) {Pd : List α → Prop} (hi : EIP D wi ρ (fun ds => ∃ as, Pd as ∧ ds = as.map f)) (hz : ∀ as, Pd as → as.length ≤ 100000)
    (hg : ∀ as a, Pd as → a ∈ as → EG g (f a) (l a)) (hv : ∀ as a, Pd as → a ∈ as → ∀ j ∈ (l a).map (·.1), j ∈ vs) (Pv : List α → Nat → List Dt → Prop) (h0 : ∀ as, Pd as → Pv as 0 [])
    (T : List α → Nat → α → Bool → Prop) (ht : ∀ as i a es, Pd as → as[i]? = some a → Pv as i es → ETP D tt (setR (wipeR ρ vs) (l a)) (T as i a))
    (hn : ∀ as i a es, Pd as → as[i]? = some a → Pv as i es → T as i a false → Pv as (i + 1) es)
    (he : ∀ as i a es, Pd as → as[i]? = some a → Pv as i es → T as i a true → EVP D te (setR (wipeR ρ vs) (l a)) (fun e => Pv as (i + 1) (es ++ [e])))
    (hl : ∀ as i es, Pv as i es → es.length ≤ i) : EOP D (tLc wi g tt te vs) ρ (fun es => ∃ as, Pd as ∧ Pv as as.length es) := by
  intro σ B H r Q q
  refine hi σ B H r _ fun J ds B1 H1 pd g1 w => ?_
  obtain ⟨as, pa, rfl⟩ := pd
  intro p hp
  have hlen : (as.map f).length = as.length := List.length_map ..
  have z1 : B1 p = none := ex_none g1.i hp
  have r1 := r.gr g1
  have hpD : some p ≠ D := fun e => by
    obtain ⟨_, ns, h⟩ := r1.dr p e.symm
    rw [h] at hp
    cases hp
  have wk : Walk J as.length (fun H' => ∃ B', Ex B1 B' ∧ Ex B' H') (fun i H' x H2 => J.yld i H' x H2) :=
    ⟨fun i H' hi ⟨B', e1, e2⟩ => w.goes i H' (by rw [hlen]; exact hi) (e1.trans e2), fun H' ⟨B', e1, e2⟩ => by
      have := w.stops H' (e1.trans e2)
      rw [hlen] at this
      exact this, fun i H' x H2 _ _ y => y⟩
  refine lc_it wk (CI D B1 H1 p (Pv as)) ⟨B1, [], [], Gr.newO g1.i hp, z1, upd_same, rfl, h0 as pa⟩ (fun i H' _ ⟨B', xs, es, g2, _⟩ => ⟨B', g2.b, g2.i⟩) ?_ ?_
  · rintro i x H2 H3 hi ⟨B2, xs, es, g2, z2, h2, l2, pv⟩ y
    obtain ⟨d, B3, q3, g3, hd⟩ := w.yields i B2 H2 x H3 (by rw [hlen]; exact hi) g2.b g2.i y
    have ha : as[i]? = some as[i] := List.getElem?_eq_getElem hi
    have hm : as[i] ∈ as := List.getElem_mem hi
    have ed : f as[i] = d := by
      rw [List.getElem?_map, ha] at q3
      exact Option.some.inj q3
    subst ed
    have gD := g3 D
    have z3 := gD.k p _ hpD h2 z2
    have r3 : Rl D (wipeR ρ vs) (wipe σ vs) B3 H3 := (((r1.gr g2).gr gD).wipe vs)
    refine hg as _ pa hm (wipe σ vs) B3 H3 x gD.i hd _ fun us hu => ⟨wipe_setV (hv as _ pa hm), ?_⟩
    have r4 := Rl.sets r3 hu
    refine ht as i _ es pa ha pv _ B3 H3 r4 _ fun b B4 H4 tb g4 => ?_
    have z4 := g4.k p _ hpD z3.2 z3.1
    cases b with
    | false =>
      show CI D B1 H1 p (Pv as) (i + 1) H4
      exact ⟨B4, xs, es, (g2.trans gD).trans g4, z4.1, z4.2, (l2.mono gD.b).mono g4.b, hn as i _ es pa ha pv tb⟩
    | true =>
      show te _ H4 _
      refine he as i _ es pa ha pv tb _ B4 H4 (r4.gr g4) _ fun v e B5 H5 pe g5 hv5 => ?_
      have z5 := g5.k p _ hpD z4.2 z4.1
      have bl := hl as i es pv
      have bz := hz as pa
      have xl := l2.length
      refine ⟨xs, z5.2, Nat.lt_of_lt_of_le (show xs.length < 100001 by omega) (by decide), B5, xs ++ [v], es ++ [e], ?_, z5.1, upd_same, ?_, pe⟩
      · exact (((g2.trans gD).trans g4).trans g5).mut hp z5.1
      · exact (((l2.mono gD.b).mono g4.b).mono g5.b).append (HasL.one hv5)
  · rintro H2 ⟨B2, xs, es, g2, z2, h2, l2, pv⟩
    exact q p xs es B2 H2 ⟨as, pa, pv⟩ (g1.trans g2) (g1.none_back r.ex r.dr hp) z2 h2 l2
theorem take_succ_map {β γ : Type} {as : List β} {i : Nat} {a : β} (h : as[i]? = some a) (p : β → Bool) (F : β → γ) : ((as.take (i + 1)).filter p).map F = ((as.take i).filter p).map F ++ (if p a then [F a] else []) := by
  rw [List.take_add_one, h, List.filter_append, List.map_append]
  congr 1
  cases hp : p a with
  | true => simp [Option.toList, List.filter, hp]
  | false => simp [Option.toList, List.filter, hp]
/-- the plain case -/
theorem eo_lc (f : α → Dt) (l : α → List (Nat × Dt)) (as : List α) (hi : EI D wi ρ (as.map f)) (hz : as.length ≤ 100000) (hg : ∀ a ∈ as, EG g (f a) (l a)) (hv : ∀ a ∈ as, ∀ j ∈ (l a).map (·.1), j ∈ vs)
    (p : α → Bool) (ht : ∀ a ∈ as, ET D tt (setR (wipeR ρ vs) (l a)) (p a)) (F : α → Dt) (he : ∀ a ∈ as, p a = true → EV D te (setR (wipeR ρ vs) (l a)) (F a)) : EO D (tLc wi g tt te vs) ρ ((as.filter p).map F) := by
  have m : ∀ {as : List α} {i : Nat} {a : α}, as[i]? = some a → a ∈ as := fun h => List.mem_of_getElem? h
  have z := eop_lc (D := D) (ρ := ρ) (te := te) (tt := tt) (wi := wi) (g := g) (vs := vs) f l (Pd := fun bs => bs = as) (fun σ B H r R q => hi σ B H r R fun J ds B2 H2 e => q J ds B2 H2 ⟨as, rfl, e⟩)
    (fun bs e => by rw [e]; exact hz) (fun bs a e ha => hg a (e ▸ ha)) (fun bs a e ha => hv a (e ▸ ha)) (fun bs i es => es = ((bs.take i).filter p).map F) (fun bs _ => by simp)
    (fun bs i a b => b = p a) (fun bs i a es e ha _ => ht a (e ▸ m ha)) (fun bs i a es e ha pv tb => by rw [take_succ_map ha, ← tb, pv]; simp)
    (fun bs i a es e ha pv tb => EVP.imp (he a (e ▸ m ha) tb.symm) fun d ed => by rw [take_succ_map ha, ← tb, pv, ed]; simp)
    (fun bs i es pv => by
      rw [pv, List.length_map]
      exact Nat.le_trans (List.length_filter_le ..) (by rw [List.length_take]; omega))
  exact EOP.imp z fun es ⟨bs, e, pv⟩ => by rw [pv, e, List.take_length]
theorem eo_lcm (f : α → Dt) (l : α → List (Nat × Dt)) (as : List α) (hi : EI D wi ρ (as.map f)) (hz : as.length ≤ 100000) (hg : ∀ a ∈ as, EG g (f a) (l a)) (hv : ∀ a ∈ as, ∀ j ∈ (l a).map (·.1), j ∈ vs)
    (F : α → Dt) (he : ∀ a ∈ as, EV D te (setR (wipeR ρ vs) (l a)) (F a)) : EO D (tLc wi g tYes te vs) ρ (as.map F) := by
  have z := eo_lc (D := D) (ρ := ρ) (te := te) (tt := tYes) (wi := wi) (g := g) (vs := vs) f l as hi hz hg hv (fun _ => true) (fun a _ => et_yes) F (fun a ha _ => he a ha)
  exact EO.to z (by rw [List.filter_eq_self.mpr (fun _ _ => rfl)])
end

/-! ### calls -/
/-- a promise: from data args x with pre x, data d with res x d; nothing that stood changes -/
def PF {α : Type} (pre : α → Prop) (args : α → List Dt) (res : α → Dt → Prop) : Sp := fun vs H Q _ =>
  ∃ (x : α) (B : Hp), pre x ∧ Ex B H ∧ HasL (args x) vs B ∧ ∀ v d B2 H2, res x d → Gr none B H B2 H2 → Has d v B2 → Q v H2
/-- the same behind the draws, a list of ints that may change -/
def PD {α : Type} (pre : α → Prop) (args : α → List Dt) (res : α → Dt → Prop) : Sp := fun vs H Q _ =>
  ∃ (x : α) (B : Hp) (a : Addr) (ws : List V), pre x ∧ Ex B H ∧ Dr a B H ∧ vs = .ref a :: ws ∧ HasL (args x) ws B ∧ ∀ v d B2 H2, res x d → Gr (some a) B H B2 H2 → Has d v B2 → Q v H2
section
variable {D : Option Addr} {ρ : List Sl} {ta : TA} {α : Type} {pre : α → Prop} {args : α → List Dt} {res : α → Dt → Prop} {E : XK}
theorem pf_len {n : Nat} (h : ∀ x, (args x).length = n) : ∀ vs H Q E, PF pre args res vs H Q E → vs.length = n := fun vs H Q E ⟨x, B, _, _, l, _⟩ => by
  rw [l.length, h]
theorem pd_len {n : Nat} (h : ∀ x, (args x).length = n) : ∀ vs H Q E, PD pre args res vs H Q E → vs.length = n + 1 := fun vs H Q E ⟨x, B, a, ws, _, _, _, e, l, _⟩ => by
  rw [e, List.length_cons, l.length, h]
theorem evp_call (h : EAP D ta ρ (fun ds => ∃ x, pre x ∧ ds = args x)) : EVP D (tCall (PF pre args res) [] E ta) ρ (fun d => ∃ x, res x d) := fun σ B H r Q q => h σ B H r _ fun vs ds B1 H1 pd g1 hs => by
  obtain ⟨x, px, rfl⟩ := pd
  show PF pre args res (vs ++ []) H1 Q E
  rw [List.append_nil]
  exact ⟨x, B1, px, g1.i, hs, fun v d B2 H2 rd g2 hv => q v d B2 H2 ⟨x, rd⟩ (g1.trans g2.any) hv⟩
theorem ev_call (x : α) (px : pre x) (h : EA D ta ρ (args x)) : EVP D (tCall (PF pre args res) [] E ta) ρ (res x) := fun σ B H r Q q => h σ B H r _ fun vs ds B1 H1 pd g1 hs => by
  subst pd
  show PF pre args res (vs ++ []) H1 Q E
  rw [List.append_nil]
  exact ⟨x, B1, px, g1.i, hs, fun v d B2 H2 rd g2 hv => q v d B2 H2 rd (g1.trans g2.any) hv⟩
/-- arguments of any of these x -/
theorem evp_callP (X : α → Prop) (hX : ∀ x, X x → pre x) (h : EAP D ta ρ (fun ds => ∃ x, X x ∧ ds = args x)) : EVP D (tCall (PF pre args res) [] E ta) ρ (fun d => ∃ x, X x ∧ res x d) := fun σ B H r Q q => h σ B H r _ fun vs ds B1 H1 pd g1 hs => by
  obtain ⟨x, px, rfl⟩ := pd
  show PF pre args res (vs ++ []) H1 Q E
  rw [List.append_nil]
  exact ⟨x, B1, hX x px, g1.i, hs, fun v d B2 H2 rd g2 hv => q v d B2 H2 ⟨x, px, rd⟩ (g1.trans g2.any) hv⟩
theorem evp_callD {i : Nat} (hi : ρ[i]? = some .drw) (X : α → Prop) (hX : ∀ x, X x → pre x) (h : EAP D ta ρ (fun ds => ∃ x, X x ∧ ds = args x)) : EVP D (tCall (PD pre args res) [] E (tCons (tVar i) ta)) ρ (fun d => ∃ x, X x ∧ res x d) := fun σ B H r Q q => by
  have q0 := r.at_ i
  rw [hi] at q0
  obtain ⟨a, e1, e2⟩ := q0
  refine ⟨.ref a, e1, h σ B H r _ fun vs ds B1 H1 pd g1 hs => ?_⟩
  obtain ⟨x, px, rfl⟩ := pd
  show PD pre args res ((.ref a :: vs) ++ []) H1 Q E
  rw [List.append_nil]
  subst e2
  exact ⟨x, B1, a, vs, hX x px, g1.i, (r.gr g1).dr a rfl, rfl, hs, fun v d B2 H2 rd g2 hv => q v d B2 H2 ⟨x, px, rd⟩ (g1.trans g2) hv⟩
theorem ev_callD {i : Nat} (hi : ρ[i]? = some .drw) (x : α) (px : pre x) (h : EA D ta ρ (args x)) : EVP D (tCall (PD pre args res) [] E (tCons (tVar i) ta)) ρ (res x) :=
  EVP.imp (evp_callD hi (fun y => y = x) (fun y e => e ▸ px) (fun σ B H r Q q => h σ B H r Q fun vs ds B2 H2 e => q vs ds B2 H2 ⟨x, rfl, e⟩)) fun d ⟨y, e, rd⟩ => e ▸ rd
end

/-! ### statements -/
structure Sta (D : Option Addr) (B0 H0 Bk : Hp) (ρ : List Sl) (σ : L2.St) (B H : Hp) : Prop where
  gr : Gr D B0 H0 B H
  rl : Rl D ρ σ B H
  kb : Ex Bk B
  fr : ∀ (i : Nat) (ds : List Dt) (a : Addr), ρ[i]? = some (.own ds) → σ[i]? = some (some (.ref a)) → H0 a = none
  dis : ∀ (i j : Nat) (ds es : List Dt) (a : Addr), i ≠ j → ρ[i]? = some (.own ds) → ρ[j]? = some (.own es) → σ[i]? = some (some (.ref a)) → σ[j]? ≠ some (some (.ref a))
inductive Wk : List Sl → List Sl → Prop
  | nil : Wk [] []
  | same {s : Sl} {l m : List Sl} : Wk l m → Wk (s :: l) (s :: m)
  | any {s : Sl} {l m : List Sl} : Wk l m → Wk (.any :: l) (s :: m)
theorem Wk.len : ∀ {l m : List Sl}, Wk l m → l.length = m.length
  | _, _, .nil => rfl
  | _, _, .same h => congrArg Nat.succ h.len
  | _, _, .any h => congrArg Nat.succ h.len
theorem Wk.get : ∀ {l m : List Sl}, Wk l m → ∀ (i : Nat) (s : Sl), l[i]? = some s → s = Sl.any ∨ m[i]? = some s
  | _, _, .nil, i, s, h => by cases h
  | _, _, .same _, 0, s, h => .inr h
  | _, _, .any _, 0, s, h => .inl (Option.some.inj h).symm
  | _, _, .same w, i + 1, s, h => w.get i s h
  | _, _, .any w, i + 1, s, h => w.get i s h
section
variable {D : Option Addr} {B0 H0 Bk B H B2 H2 : Hp} {ρ ρ' : List Sl} {σ : L2.St}
theorem Sta.start (e : Ex B H) (r : Rl D ρ σ B H) (h : ∀ (i : Nat) (ds : List Dt), ρ[i]? ≠ some (Sl.own ds)) : Sta D B H B ρ σ B H :=
  ⟨Gr.refl e, r, Ex.refl B, fun i ds a q _ => absurd q (h i ds), fun i _ ds _ a _ q _ _ => absurd q (h i ds)⟩
theorem Sta.go (s : Sta D B0 H0 Bk ρ σ B H) (g : Gr D B H B2 H2) : Sta D B0 H0 Bk ρ σ B2 H2 := ⟨s.gr.trans g, s.rl.gr g, s.kb.trans g.b, s.fr, s.dis⟩
theorem set_get {β : Type} {l : List β} {i j : Nat} {x y : β} (h : (l.set i x)[j]? = some y) : (i = j ∧ x = y) ∨ (i ≠ j ∧ l[j]? = some y) := by
  by_cases q : i = j
  · subst q
    by_cases l0 : i < l.length
    · rw [List.getElem?_set_self l0] at h
      exact .inl ⟨rfl, Option.some.inj h⟩
    · rw [List.getElem?_eq_none (by simpa using l0)] at h
      cases h
  · rw [List.getElem?_set_ne q] at h
    exact .inr ⟨q, h⟩
theorem Sta.set (s : Sta D B0 H0 Bk ρ σ B H) {i : Nat} {d : Dt} {v : V} (h : Has d v B) : Sta D B0 H0 Bk (ρ.set i (.dat d)) (σ.set i (some v)) B H := by
  refine ⟨s.gr, s.rl.set h, s.kb, fun j ds a q1 q2 => ?_, fun j k ds es a ne q1 q2 q3 => ?_⟩
  · rcases set_get q1 with ⟨_, z⟩ | ⟨ne, z⟩
    · cases z
    · rw [List.getElem?_set_ne ne] at q2
      exact s.fr j ds a z q2
  · rcases set_get q1 with ⟨_, z⟩ | ⟨n1, z1⟩
    · cases z
    rcases set_get q2 with ⟨_, z⟩ | ⟨n2, z2⟩
    · cases z
    rw [List.getElem?_set_ne n1] at q3
    rw [List.getElem?_set_ne n2]
    exact s.dis j k ds es a ne z1 z2 q3
theorem Sta.sets : ∀ {l : List (Nat × Dt)} {ρ : List Sl} {σ : L2.St} {vs : List V}, Sta D B0 H0 Bk ρ σ B H → HasL (l.map (·.2)) vs B → Sta D B0 H0 Bk (setR ρ l) (setV σ (l.map (·.1)) vs) B H
  | [], _, _, _, s, _ => s
  | p :: l, ρ, σ, _, s, h => by
    obtain ⟨x, r, rfl, h2, h3⟩ := h
    exact Sta.sets (l := l) (ρ := ρ.set p.1 (.dat p.2)) (σ := σ.set p.1 (some x)) (vs := r) (s.set h2) h3
theorem Sta.setO (s : Sta D B0 H0 Bk ρ σ B H) {i : Nat} {ds : List Dt} {p : Addr} {xs : List V} (n : H0 p = none) (z : B p = none) (hx : H p = some (.lst xs)) (h : HasL ds xs B) (nd : some p ≠ D)
    (other : ∀ (j : Nat) (es : List Dt), j ≠ i → ρ[j]? = some (.own es) → σ[j]? ≠ some (some (.ref p))) : Sta D B0 H0 Bk (ρ.set i (.own ds)) (σ.set i (some (.ref p))) B H := by
  refine ⟨s.gr, s.rl.setO z hx h nd, s.kb, fun j es a q1 q2 => ?_, fun j k ds' es a ne q1 q2 q3 => ?_⟩
  · rcases set_get q1 with ⟨rfl, _⟩ | ⟨ne, z⟩
    · rcases set_get q2 with ⟨_, e⟩ | ⟨ne, _⟩
      · cases e
        exact n
      · exact absurd rfl ne
    · rw [List.getElem?_set_ne ne] at q2
      exact s.fr j es a z q2
  · rcases set_get q1 with ⟨rfl, _⟩ | ⟨n1, z1⟩
    · rcases set_get q2 with ⟨e, _⟩ | ⟨n2, z2⟩
      · exact absurd e ne
      rcases set_get q3 with ⟨_, e⟩ | ⟨n3, _⟩
      · cases e
        rw [List.getElem?_set_ne n2]
        exact other k es n2.symm z2
      · exact absurd rfl n3
    · rw [List.getElem?_set_ne n1] at q3
      rcases set_get q2 with ⟨rfl, _⟩ | ⟨n2, z2⟩
      · intro q4
        rcases set_get q4 with ⟨_, e⟩ | ⟨n4, _⟩
        · cases e
          exact other j ds' n1.symm z1 q3
        · exact absurd rfl n4
      · rw [List.getElem?_set_ne n2]
        exact s.dis j k ds' es a ne z1 z2 q3
theorem Sta.weak (s : Sta D B0 H0 Bk ρ σ B H) (w : Wk ρ' ρ) : Sta D B0 H0 Bk ρ' σ B H := by
  have own : ∀ (i : Nat) (ds : List Dt), ρ'[i]? = some (.own ds) → ρ[i]? = some (.own ds) := fun i ds h => (w.get i _ h).resolve_left (by intro z; cases z)
  exact ⟨s.gr, s.rl.weak w.len w.get, s.kb, fun i ds a q1 q2 => s.fr i ds a (own i ds q1) q2, fun i j ds es a ne q1 q2 q3 => s.dis i j ds es a ne (own i ds q1) (own j es q2) q3⟩
/-- one's own list is changed -/
theorem Sta.mut (s : Sta D B0 H0 Bk ρ σ B H) {i : Nat} {ds es : List Dt} {a : Addr} {ys : List V} (q : ρ[i]? = some (.own ds)) (q2 : σ[i]? = some (some (.ref a))) (h : HasL es ys B) : Sta D B0 H0 Bk (ρ.set i (.own es)) σ B (upd H a (.lst ys)) := by
  obtain ⟨b, xs, e1, z, hx, hl, nd⟩ := s.rl.own q
  rw [q2] at e1
  cases e1
  have n := s.fr i ds a q q2
  have g := s.gr.mut (o := .lst ys) n z
  refine ⟨g, ⟨g.i, by rw [List.length_set]; exact s.rl.len, fun j => ?_, fun b e => ?_⟩, s.kb, fun j fs b q1 q3 => ?_, fun j k fs gs b ne q1 q3 q4 => ?_⟩
  · by_cases ij : i = j
    · subst ij
      have l : i < ρ.length := (List.getElem?_eq_some_iff.mp q).1
      rw [List.getElem?_set_self l, q2]
      exact ⟨a, ys, rfl, z, upd_same, h, nd⟩
    · rw [List.getElem?_set_ne ij]
      have r := s.rl.at_ j
      cases e : ρ[j]? with
      | none => trivial
      | some sl =>
        cases sl with
        | any => trivial
        | dat d =>
          rw [e] at r
          exact r
        | drw =>
          rw [e] at r
          exact r
        | val v =>
          rw [e] at r
          exact r
        | sq b φ =>
          rw [e] at r
          exact r
        | obj b φ =>
          rw [e] at r
          obtain ⟨r1, r2, ⟨u, r3, r4, r6⟩, r7, r5⟩ := r
          exact ⟨r1, r2, ⟨u, by rw [upd_ne (fun e' => by rw [e', hx] at r3; exact r4 _ (Option.some.inj r3).symm)]; exact r3, r4, r6⟩, r7, r5⟩
        | own fs =>
          rw [e] at r
          obtain ⟨b, zs, r1, r2, r3, r4, r5⟩ := r
          have ab : b ≠ a := fun e' => by
            subst e'
            exact s.dis i j ds fs b ij q e q2 r1
          exact ⟨b, zs, r1, r2, by rw [upd_ne ab]; exact r3, r4, r5⟩
  · obtain ⟨z2, ns, h3⟩ := s.rl.dr b e
    have ab : b ≠ a := fun e' => nd (by rw [← e', e])
    exact ⟨z2, ns, by rw [upd_ne ab]; exact h3⟩
  · rcases set_get q1 with ⟨rfl, _⟩ | ⟨_, z1⟩
    · rw [q2] at q3
      cases q3
      exact n
    · exact s.fr j fs b z1 q3
  · rcases set_get q1 with ⟨rfl, _⟩ | ⟨_, z1⟩
    · rcases set_get q3 with ⟨e, _⟩ | ⟨_, z2⟩
      · exact absurd e ne
      · exact s.dis i k ds gs b ne q z2 q4
    · rcases set_get q3 with ⟨rfl, _⟩ | ⟨_, z2⟩
      · exact s.dis j i fs ds b ne z1 q q4
      · exact s.dis j k fs gs b ne z1 z2 q4
/-- one's own list becomes known -/
theorem Sta.know (s : Sta D B0 H0 Bk ρ σ B H) {i : Nat} {ds : List Dt} (q : ρ[i]? = some (.own ds)) : ∃ B', Sta D B0 H0 Bk (ρ.set i (.dat (.lst ds))) σ B' H := by
  obtain ⟨a, xs, e1, z, hx, hl, nd⟩ := s.rl.own q
  have n := s.fr i ds a q e1
  have g := s.gr.know (o := .lst xs) n z hx
  have eb : Ex B (upd B a (.lst xs)) := Ex.new z
  refine ⟨upd B a (.lst xs), g, ⟨g.i, by rw [List.length_set]; exact s.rl.len, fun j => ?_, fun b e => ?_⟩, s.kb.trans eb, fun j fs b q1 q3 => ?_, fun j k fs gs b ne q1 q3 q4 => ?_⟩
  · by_cases ij : i = j
    · subst ij
      have l : i < ρ.length := (List.getElem?_eq_some_iff.mp q).1
      rw [List.getElem?_set_self l, e1]
      exact ⟨.ref a, rfl, a, xs, rfl, upd_same, hl.mono eb⟩
    · rw [List.getElem?_set_ne ij]
      have r := s.rl.at_ j
      cases e : ρ[j]? with
      | none => trivial
      | some sl =>
        cases sl with
        | any => trivial
        | dat d =>
          rw [e] at r
          obtain ⟨v, r1, r2⟩ := r
          exact ⟨v, r1, r2.mono eb⟩
        | drw =>
          rw [e] at r
          exact r
        | val v =>
          rw [e] at r
          exact r
        | sq b φ =>
          rw [e] at r
          exact ⟨r.1, fun H' e' => r.2 H' (eb.trans e')⟩
        | obj b φ =>
          rw [e] at r
          obtain ⟨r1, r2, ⟨u, r3, r4, r6⟩, r7, r5⟩ := r
          exact ⟨r1, by rw [upd_ne (fun e' => by rw [e', hx] at r3; exact r4 _ (Option.some.inj r3).symm)]; exact r2, ⟨u, r3, r4, r7 _ _ _ eb r6⟩, r7, r5⟩
        | own fs =>
          rw [e] at r
          obtain ⟨b, zs, r1, r2, r3, r4, r5⟩ := r
          have ab : b ≠ a := fun e' => by
            subst e'
            exact s.dis i j ds fs b ij q e e1 r1
          exact ⟨b, zs, r1, by rw [upd_ne ab]; exact r2, r3, r4.mono eb, r5⟩
  · obtain ⟨z2, ns, h3⟩ := s.rl.dr b e
    have ab : b ≠ a := fun e' => nd (by rw [← e', e])
    exact ⟨by rw [upd_ne ab]; exact z2, ns, h3⟩
  · rcases set_get q1 with ⟨rfl, e⟩ | ⟨_, z1⟩
    · cases e
    · exact s.fr j fs b z1 q3
  · rcases set_get q1 with ⟨rfl, e⟩ | ⟨_, z1⟩
    · cases e
    · rcases set_get q3 with ⟨rfl, e⟩ | ⟨_, z2⟩
      · cases e
      · exact s.dis j k fs gs b ne z1 z2 q4
end

section
variable {D : Option Addr} {B0 H0 Bk B H : Hp} {ρ : List Sl} {σ : L2.St} {te ta tb : TE} {tt : TT} {P : Dt → Prop} {tu tw tz : TS} {Dn : Ends} {d : Dt} {ds es : List Dt}
theorem s_ret (s : Sta D B0 H0 Bk ρ σ B H) (h : EVP D te ρ P) (k : ∀ v d B2 H2, P d → Gr D B0 H0 B2 H2 → Has d v B2 → Dn.rt v H2) : tRet te Dn σ H :=
  h σ B H s.rl _ fun v d B2 H2 p g hv => k v d B2 H2 p (s.gr.trans g) hv
theorem s_set {i : Nat} (s : Sta D B0 H0 Bk ρ σ B H) (h : EVP D te ρ P) (k : ∀ d σ' B' H', P d → Sta D B0 H0 Bk (ρ.set i (.dat d)) σ' B' H' → Dn.nx σ' H') : tAsg te (gName i) Dn σ H :=
  h σ B H s.rl _ fun v d B2 H2 p g hv => k d _ B2 H2 p ((s.go g).set hv)
theorem q_set {i : Nat} (s : Sta D B0 H0 Bk ρ σ B H) (h : EVP D te ρ P) (k : ∀ d σ' B' H', P d → Sta D B0 H0 Bk (ρ.set i (.dat d)) σ' B' H' → tz Dn σ' H') : tSeq (tAsg te (gName i)) tz Dn σ H := s_set (Dn := { Dn with nx := tz Dn }) s h k
theorem q_setE {i : Nat} (s : Sta D B0 H0 Bk ρ σ B H) (h : EV D te ρ d) (k : ∀ σ' B' H', Sta D B0 H0 Bk (ρ.set i (.dat d)) σ' B' H' → tz Dn σ' H') : tSeq (tAsg te (gName i)) tz Dn σ H := q_set s h fun e σ' B' H' p st => k σ' B' H' (p ▸ st)
theorem s_setE {i : Nat} (s : Sta D B0 H0 Bk ρ σ B H) (h : EV D te ρ d) (k : ∀ σ' B' H', Sta D B0 H0 Bk (ρ.set i (.dat d)) σ' B' H' → Dn.nx σ' H') : tAsg te (gName i) Dn σ H := s_set s h fun e σ' B' H' p st => k σ' B' H' (p ▸ st)
/-- a new list of one's own -/
theorem s_setO {i : Nat} {PL : List Dt → Prop} (s : Sta D B0 H0 Bk ρ σ B H) (h : EOP D te ρ PL) (hd : ∀ a, D = some a → Dr a B0 H0) (k : ∀ ds σ' B' H', PL ds → Sta D B0 H0 Bk (ρ.set i (.own ds)) σ' B' H' → Dn.nx σ' H') (e0 : Ex B0 H0) : tAsg te (gName i) Dn σ H :=
  h σ B H s.rl _ fun p xs ds B2 H2 pl g n z hx hl => by
    have s2 := s.go g
    have n0 : H0 p = none := s.gr.none_back e0 hd n
    refine k ds _ B2 H2 pl (s2.setO n0 z hx hl (fun e => ?_) fun j es _ q q2 => ?_)
    · obtain ⟨_, ns, q⟩ := s.rl.dr p e.symm
      rw [q] at n
      cases n
    · obtain ⟨b, ys, e1, _, hb, _⟩ := s.rl.own q
      rw [q2] at e1
      cases e1
      rw [hb] at n
      cases n
theorem q_setO {i : Nat} {PL : List Dt → Prop} (s : Sta D B0 H0 Bk ρ σ B H) (h : EOP D te ρ PL) (hd : ∀ a, D = some a → Dr a B0 H0) (e0 : Ex B0 H0) (k : ∀ ds σ' B' H', PL ds → Sta D B0 H0 Bk (ρ.set i (.own ds)) σ' B' H' → tz Dn σ' H') : tSeq (tAsg te (gName i)) tz Dn σ H :=
  s_setO (Dn := { Dn with nx := tz Dn }) s h hd k e0
/-- .. in a def without draws -/
theorem q_new {i : Nat} (s : Sta none B0 H0 Bk ρ σ B H) (h : EO none te ρ ds) (e0 : Ex B0 H0) (k : ∀ σ' B' H', Sta none B0 H0 Bk (ρ.set i (.own ds)) σ' B' H' → tz Dn σ' H') : tSeq (tAsg te (gName i)) tz Dn σ H :=
  q_setO s h (fun _ e => nomatch e) e0 fun es σ' B' H' p st => k σ' B' H' (p ▸ st)
theorem s_if {b : Bool} (s : Sta D B0 H0 Bk ρ σ B H) (h : ET D tt ρ b) (h1 : b = true → ∀ B' H', Sta D B0 H0 Bk ρ σ B' H' → tu Dn σ H') (h2 : b = false → ∀ B' H', Sta D B0 H0 Bk ρ σ B' H' → tw Dn σ H') : tIfS tt tu tw Dn σ H :=
  h σ B H s.rl _ fun c B2 H2 pc g => by
    subst pc
    cases c with
    | true =>
      show tu Dn σ H2
      exact h1 rfl B2 H2 (s.go g)
    | false =>
      show tw Dn σ H2
      exact h2 rfl B2 H2 (s.go g)
theorem s_ifP {P : Bool → Prop} (s : Sta D B0 H0 Bk ρ σ B H) (h : ETP D tt ρ P) (h1 : P true → ∀ B' H', Sta D B0 H0 Bk ρ σ B' H' → tu Dn σ H') (h2 : P false → ∀ B' H', Sta D B0 H0 Bk ρ σ B' H' → tw Dn σ H') : tIfS tt tu tw Dn σ H :=
  h σ B H s.rl _ fun c B2 H2 pc g => by
    cases c with
    | true =>
      show tu Dn σ H2
      exact h1 pc B2 H2 (s.go g)
    | false =>
      show tw Dn σ H2
      exact h2 pc B2 H2 (s.go g)
theorem q_if {b : Bool} (s : Sta D B0 H0 Bk ρ σ B H) (h : ET D tt ρ b) (h1 : b = true → ∀ B' H', Sta D B0 H0 Bk ρ σ B' H' → tu { Dn with nx := tz Dn } σ H') (h2 : b = false → ∀ B' H', Sta D B0 H0 Bk ρ σ B' H' → tw { Dn with nx := tz Dn } σ H') : tSeq (tIfS tt tu tw) tz Dn σ H :=
  s_if (Dn := { Dn with nx := tz Dn }) s h h1 h2
/-- an if that is not taken -/
theorem q_no (s : Sta D B0 H0 Bk ρ σ B H) (h : ET D tt ρ false) (k : ∀ B' H', Sta D B0 H0 Bk ρ σ B' H' → tz Dn σ H') : tSeq (tIfS tt tu tNext) tz Dn σ H :=
  s_if (Dn := { Dn with nx := tz Dn }) s h (fun e => nomatch e) fun _ B' H' st => k B' H' st
theorem q_noF {b : Bool} (s : Sta D B0 H0 Bk ρ σ B H) (h : ET D tt ρ b) (hb : b = false) (k : ∀ B' H', Sta D B0 H0 Bk ρ σ B' H' → tz Dn σ H') : tSeq (tIfS tt tu tNext) tz Dn σ H := q_no s (hb ▸ h) k
theorem s_drop (s : Sta D B0 H0 Bk ρ σ B H) (h : EVP D te ρ P) (k : ∀ B' H', Sta D B0 H0 Bk ρ σ B' H' → Dn.nx σ H') : tDrop te Dn σ H := h σ B H s.rl _ fun v d B2 H2 p g hv => k B2 H2 (s.go g)
/-- xs.append(e), xs one's own -/
theorem s_app {K : PySem.W.Frag} {i : Nat} (s : Sta D B0 H0 Bk ρ σ B H) (q : ρ[i]? = some (.own ds)) (h : EVP D te ρ P) (hz : ds.length < 100000) (k : ∀ d B' H', P d → Sta D B0 H0 Bk (ρ.set i (.own (ds ++ [d]))) σ B' H' → Dn.nx σ H') :
    tDrop (tBM K "list" rAppend (tVar i) (tCons te tNil)) Dn σ H := by
  obtain ⟨a, xs, e1, z, hx, hl, nd⟩ := s.rl.own q
  refine ⟨.ref a, e1, Or.inl ⟨rfl, xs, SqL.of hx⟩, h σ B H s.rl _ fun v d B2 H2 p g hv => ?_⟩
  obtain ⟨z2, hx2⟩ := g.k a _ nd hx z
  exact ⟨a, xs, v, rfl, rfl, hx2, Nat.lt_of_lt_of_le (by rw [hl.length]; exact hz) (by decide), k d B2 _ p ((s.go g).mut q e1 ((hl.mono g.b).append (HasL.one hv)))⟩
theorem q_app {K : PySem.W.Frag} {i : Nat} (s : Sta D B0 H0 Bk ρ σ B H) (q : ρ[i]? = some (.own ds)) (h : EVP D te ρ P) (hz : ds.length < 100000) (k : ∀ d B' H', P d → Sta D B0 H0 Bk (ρ.set i (.own (ds ++ [d]))) σ B' H' → tz Dn σ H') :
    tSeq (tDrop (tBM K "list" rAppend (tVar i) (tCons te tNil))) tz Dn σ H := s_app (Dn := { Dn with nx := tz Dn }) s q h hz k
/-- xs.extend(ys), xs one's own, ys a list -/
theorem s_ext {K : PySem.W.Frag} {i : Nat} (s : Sta D B0 H0 Bk ρ σ B H) (q : ρ[i]? = some (.own ds)) (h : EV D te ρ (.lst es)) (hz : ds.length + es.length ≤ 100000) (k : ∀ B' H', Sta D B0 H0 Bk (ρ.set i (.own (ds ++ es))) σ B' H' → Dn.nx σ H') :
    tDrop (tBM K "list" rExtend (tVar i) (tCons te tNil)) Dn σ H := by
  obtain ⟨a, xs, e1, z, hx, hl, nd⟩ := s.rl.own q
  refine ⟨.ref a, e1, Or.inl ⟨rfl, xs, SqL.of hx⟩, h σ B H s.rl _ fun v d B2 H2 p g hv => ?_⟩
  subst p
  obtain ⟨z2, hx2⟩ := g.k a _ nd hx z
  obtain ⟨b, ys, rfl, hb, hm⟩ := hv
  exact ⟨a, b, xs, ys, rfl, rfl, hx2, g.i b _ hb, sz5 (by rw [hl.length, hm.length]; exact hz), k B2 _ ((s.go g).mut q e1 ((hl.mono g.b).append hm))⟩
theorem q_ext {K : PySem.W.Frag} {i : Nat} (s : Sta D B0 H0 Bk ρ σ B H) (q : ρ[i]? = some (.own ds)) (h : EV D te ρ (.lst es)) (hz : ds.length + es.length ≤ 100000) (k : ∀ B' H', Sta D B0 H0 Bk (ρ.set i (.own (ds ++ es))) σ B' H' → tz Dn σ H') :
    tSeq (tDrop (tBM K "list" rExtend (tVar i) (tCons te tNil))) tz Dn σ H := s_ext (Dn := { Dn with nx := tz Dn }) s q h hz k
/-- what is wanted between two turns -/
def NX (D : Option Addr) (B0 H0 Bk : Hp) (Inv : List Sl → Prop) : L2.St → Hp → Prop := fun σ H => ∃ ρ B, Inv ρ ∧ Sta D B0 H0 Bk ρ σ B H
theorem Sta.base {Bj : Hp} (s : Sta D B0 H0 Bk ρ σ B H) (e : Ex Bj Bk) : Sta D B0 H0 Bj ρ σ B H := ⟨s.gr, s.rl, e.trans s.kb, s.fr, s.dis⟩
theorem s_for {α : Type} {wi : TI} {g : TG} (f : α → Dt) (l : α → List (Nat × Dt)) (as : List α) (s : Sta D B0 H0 Bk ρ σ B H) (hi : EI D wi ρ (as.map f)) (hg : ∀ a ∈ as, EG g (f a) (l a)) (Inv : Nat → List Sl → Prop) (h0 : Inv 0 ρ)
    (hs : ∀ Bj i a ρ' σ' B' H', as[i]? = some a → Inv i ρ' → Sta D B0 H0 Bj (setR ρ' (l a)) σ' B' H' → tu { Dn with nx := NX D B0 H0 Bj (Inv (i + 1)), ct := NX D B0 H0 Bj (Inv (i + 1)), bk := Dn.nx } σ' H')
    (hd : ∀ ρ' σ' B' H', Inv as.length ρ' → Sta D B0 H0 Bk ρ' σ' B' H' → Dn.nx σ' H') : tFor wi g tu Dn σ H := by
  refine hi σ B H s.rl _ fun J ds B1 H1 pd g1 w => ?_
  subst pd
  have hlen : (as.map f).length = as.length := List.length_map ..
  have s1 := s.go g1
  have wk : Walk J as.length (fun H' => ∃ B', Ex B1 B' ∧ Ex B' H') (fun i H' x H2 => J.yld i H' x H2) :=
    ⟨fun i H' hi ⟨B', e1, e2⟩ => w.goes i H' (by rw [hlen]; exact hi) (e1.trans e2), fun H' ⟨B', e1, e2⟩ => by
      have := w.stops H' (e1.trans e2)
      rw [hlen] at this
      exact this, fun i H' x H2 _ _ y => y⟩
  refine for_it wk (fun i => NX D B0 H0 B1 (Inv i)) ⟨ρ, B1, h0, ⟨s1.gr, s1.rl, Ex.refl B1, s1.fr, s1.dis⟩⟩ (fun i σ' H' _ ⟨ρ', B', _, st⟩ => ⟨B', st.kb, st.rl.ex⟩) ?_ ?_
  · rintro i x σ' H2 H3 hi ⟨ρ', B2, inv, st⟩ y
    obtain ⟨d, B3, q3, g3, hd⟩ := w.yields i B2 H2 x H3 (by rw [hlen]; exact hi) st.kb st.rl.ex y
    have ha : as[i]? = some as[i] := List.getElem?_eq_getElem hi
    have ed : f as[i] = d := by
      rw [List.getElem?_map, ha] at q3
      exact Option.some.inj q3
    subst ed
    have st3 := st.go (g3 D)
    exact hg _ (List.getElem_mem hi) σ' B3 H3 x (g3 D).i hd _ fun us hu => hs B1 i _ ρ' _ B3 H3 ha inv (st3.sets hu)
  · rintro σ' H2 ⟨ρ', B2, inv, st⟩
    exact hd ρ' σ' B2 H2 inv (st.base s1.kb)
theorem q_for {α : Type} {wi : TI} {g : TG} (f : α → Dt) (l : α → List (Nat × Dt)) (as : List α) (s : Sta D B0 H0 Bk ρ σ B H) (hi : EI D wi ρ (as.map f)) (hg : ∀ a ∈ as, EG g (f a) (l a)) (Inv : Nat → List Sl → Prop) (h0 : Inv 0 ρ)
    (hs : ∀ Bj i a ρ' σ' B' H', as[i]? = some a → Inv i ρ' → Sta D B0 H0 Bj (setR ρ' (l a)) σ' B' H' → tu { Dn with nx := NX D B0 H0 Bj (Inv (i + 1)), ct := NX D B0 H0 Bj (Inv (i + 1)), bk := tz Dn } σ' H')
    (hd : ∀ ρ' σ' B' H', Inv as.length ρ' → Sta D B0 H0 Bk ρ' σ' B' H' → tz Dn σ' H') : tSeq (tFor wi g tu) tz Dn σ H := s_for (Dn := { Dn with nx := tz Dn }) f l as s hi hg Inv h0 hs hd
/-- a loop that leaves by return at the first item with p, and changes nothing -/
theorem q_search {α : Type} {wi : TI} {g : TG} (f : α → Dt) (l : α → List (Nat × Dt)) (as : List α) (s : Sta D B0 H0 Bk ρ σ B H) (hi : EI D wi ρ (as.map f)) (hg : ∀ a ∈ as, EG g (f a) (l a)) (p : α → Bool)
    (hw : ∀ a ∈ as, Wk ρ (setR ρ (l a)))
    (hs : ∀ Bj (i : Nat) a σ' B' H' Nx, as[i]? = some a → (∀ (j : Nat) b, j < i → as[j]? = some b → p b = false) → Sta D B0 H0 Bj (setR ρ (l a)) σ' B' H' →
      (p a = false → ∀ ρ' σ2 B2 H2, Wk ρ ρ' → Sta D B0 H0 Bj ρ' σ2 B2 H2 → Nx σ2 H2) → tu { Dn with nx := Nx, ct := Nx, bk := tz Dn } σ' H')
    (hd : (∀ a ∈ as, p a = false) → ∀ σ' B' H', Sta D B0 H0 Bk ρ σ' B' H' → tz Dn σ' H') : tSeq (tFor wi g tu) tz Dn σ H := by
  refine q_for f l as s hi hg (fun i ρ' => ρ' = ρ ∧ ∀ (j : Nat) b, j < i → as[j]? = some b → p b = false) ⟨rfl, fun j b h _ => absurd h (Nat.not_lt_zero j)⟩ ?_ ?_
  · rintro Bj i a ρ' σ' B' H' ha ⟨rfl, hp⟩ st
    refine hs Bj i a σ' B' H' _ ha hp st fun pa ρ2 σ2 B2 H2 w st2 => ⟨ρ', B2, ⟨rfl, fun j b hj hb => ?_⟩, st2.weak w⟩
    by_cases e : j = i
    · rw [e, ha] at hb
      cases hb
      exact pa
    · exact hp j b (by omega) hb
  · rintro ρ' σ' B' H' ⟨rfl, hp⟩ st
    refine hd (fun a ha => ?_) σ' B' H' st
    obtain ⟨j, hj, e⟩ := List.mem_iff_getElem.mp ha
    exact hp j a hj (by rw [List.getElem?_eq_getElem hj, e])
end
end K37
/-! K37R: rules of one's own: sorted of a tuple of ints, enumerate of a tuple, match by written texts. -/
namespace SrtO
open PySem PyProof.Rows
section
variable {prog : Program} {w : World} {A : Around} {E : Value → Shared → Prop} {s : Shared}
theorem collect_tup {l : Addr} {vs : List Value} {Q : List Value → Shared → Prop} (hl : s.heap.IsTuple l vs.toArray)
    (h : Q vs { s with heap := (s.heap.push (seqObj "list" #[] 0)).update s.heap.objs.size (Obj.mapSeq (· ++ vs.toArray)) }) (hsz : vs.length ≤ sizeLine) :
    wpAny (model prog w) A (collect (.ref l)) Q E s := by
  obtain ⟨o, ho, hc, n, hd⟩ := id hl
  unfold collect
  refine wpAny_bind (wpAny_runValue (codeAny_builtin entry_proto_collect' ?_))
  show wpAny _ _ (do again (.builtin "list.__iadd__" ⟨[← newList [], .ref l], []⟩)) _ _ s
  refine wpAny_bind (wpAny_newList (wpAny_pure ⟨Code.quiet_builtin _ (by decide +kernel), codeAny_builtin entry_list_iadd' ?_⟩))
  show wpAny _ _ (Builtin.List.listExtendWith (.ref s.heap.objs.size) (.ref l) (.ref s.heap.objs.size)) _ _ { s with heap := s.heap.push (seqObj "list" #[] 0) }
  unfold Builtin.List.listExtendWith
  have ho' : (s.heap.push (seqObj "list" #[] 0)).get? l = some o := Heap.get?_push_of_some _ ho
  refine wpAny_bind (wpAny_typeOf (T := "tuple") ⟨o, ho', hc⟩ ?_)
  have ht : (Value.type "tuple" == Value.type "tuple") = true := by rfl
  rw [if_pos (by rw [ht]; simp)]
  refine wpAny_bind (listItems_at ho' hd ?_)
  refine wpAny_bind (listItems_at (xs := #[]) (n := 0) (Heap.get?_push_size _ rfl) rfl ?_)
  rw [if_neg (by simp)]
  refine wpAny_bind (listUpdate_at (xs := #[]) (n := 0) (Heap.get?_push_size _ rfl) rfl ?_ (Nat.zero_le _) (by show (#[] ++ vs.toArray).size ≤ sizeLine + 1; simp only [Array.size_append, List.size_toArray, List.length_nil]; omega))
  refine wpAny_pure ?_
  show wpAny (model prog w) A (do
      let o ← load s.heap.objs.size
      match o.data with
      | .seq xs _ => pure xs.toList
      | _ => unsupported "internal:collect") Q E { s with heap := (s.heap.push (seqObj "list" #[] 0)).update s.heap.objs.size (Obj.mapSeq (· ++ vs.toArray)) }
  refine wpAny_bind (wpAny_load (get?_update_seq (Heap.get?_push_size _ rfl) _) ?_)
  show wpAny _ _ (pure ((#[] : Array Value) ++ vs.toArray).toList) Q E _
  rw [show ((#[] : Array Value) ++ vs.toArray).toList = vs by simp]
  exact wpAny_pure h
theorem sorted_ordT {l : Addr} {vs : List Value} {ltv : Value → Value → Bool} {Q : Value → Shared → Prop} (O : Swo ltv) (hl : s.heap.IsTuple l vs.toArray) (hz : vs.length ≤ sizeLine)
    (hS : 2 ≤ vs.length → ∀ (h₁ : Heap) (a : Addr), h₁.get? a = some (seqObj "list" vs.toArray 0) → (∀ b o, s.heap.get? b = some o → b ≠ a ∧ h₁.get? b = some o) → SortableO prog w A.in1.in1 { s with heap := h₁ } a vs ltv)
    (h : ∀ out : List Value, Srtd ltv out → Stb ltv out vs → Q (.ref (s.heap.objs.size + 1)) { s with heap := sortedAll s.heap vs out.toArray }) :
    wpAny (model prog w) A (call (.builtin "sorted") [.ref l]) Q E s := by
  refine Calls.call_function_entry kind_sorted plain_sorted entry_sorted (args_sorted1 _) ?_
  unfold Builtin.«sorted»
  refine wpAny_bind (m := checkCount "sorted" 1 1 _) (wpAny_pure ?_)
  refine wpAny_bind (collect_tup hl ?_ hz)
  refine wpAny_bind (wpAny_newList ?_ hz)
  have hsz : ((s.heap.push (seqObj "list" #[] 0)).update s.heap.objs.size (Obj.mapSeq (· ++ vs.toArray))).objs.size = s.heap.objs.size + 1 := by
    rw [Heap.size_update, size_push']
  have hoL : (((s.heap.push (seqObj "list" #[] 0)).update s.heap.objs.size (Obj.mapSeq (· ++ vs.toArray))).push (seqObj "list" vs.toArray 0)).get? (s.heap.objs.size + 1) = some (seqObj "list" vs.toArray 0) := by
    rw [← hsz]; exact Heap.get?_push_size _ rfl
  have keep : ∀ b o, s.heap.get? b = some o → b ≠ s.heap.objs.size + 1 ∧ (((s.heap.push (seqObj "list" #[] 0)).update s.heap.objs.size (Obj.mapSeq (· ++ vs.toArray))).push (seqObj "list" vs.toArray 0)).get? b = some o := fun b o q => by
    have hlt : b < s.heap.objs.size := Heap.lt_size q
    refine ⟨Nat.ne_of_lt (Nat.lt_succ_of_lt hlt), Heap.get?_push_of_some _ ?_⟩
    rw [Heap.get?_update_ne _ _ _ _ (Nat.ne_of_lt hlt)]
    exact Heap.get?_push_of_some _ q
  show wpAny _ _ _ _ _ { s with heap := ((s.heap.push (seqObj "list" #[] 0)).update s.heap.objs.size (Obj.mapSeq (· ++ vs.toArray))).push (seqObj "list" vs.toArray 0) }
  rw [hsz]
  refine wpAny_bind (wpAny_holding (wpAny_call_entry slot_list_sort ⟨_, hoL, rfl⟩ entry_list_sort (list_sort_ord O hoL hz (fun h2 => hS h2 _ _ hoL keep) fun out hs hb => ⟨_, rfl, ?_⟩) (args_list_sort _)))
  exact wpAny_pure ⟨_, rfl, h out hs hb⟩
end
end SrtO

namespace PySem
open Sem (wp)
set_option maxHeartbeats 4000000 in
theorem meets_enumerate_newB1 {v : Value} {o : Obj} {H : Heap → Prop} (B : Begins v o H) :
    Meets (Builtin.«enumerate.__new__» ⟨[.type "enumerate", v], []⟩) (fun _ R s => H s.heap ∧
      R (.ok (.ret (.ref (s.heap.push o).objs.size))) { s with heap := (s.heap.push o).push { cls := .type "enumerate", data := .fields #[.none, .bool false, .ref s.heap.objs.size, rawInt 0, .none, .none] } }) :=
  .of_wp fun prog w A R s h => by
    obtain ⟨hp, g, d, tk, os⟩ := s; obtain ⟨h1, h⟩ := h
    have hsub := sub_enumerate
    have q1 : ∀ {A' : Around} {E : Value → Shared → Prop} {Q : Value → Shared → Prop}, Q (.ref hp.objs.size) ⟨hp.push o, g, d, tk, os⟩ → wpAny (model prog w) A' (pyIter v) Q E ⟨hp, g, d, tk, os⟩ :=
      fun q => B.iter prog w _ _ ⟨hp, g, d, tk, os⟩ _ h1 q
    wp_walk using q1
    refine wpAny_stack_any fun st => wpAny_pure ?_
    split
    · rename_i c _ _ _ _ _
      cases (c == Value.type "enumerate")
      · wp_walk using q1
        exact ⟨_, rfl, h⟩
      · wp_walk using q1
        exact ⟨_, rfl, h⟩
    · wp_walk using q1
      exact ⟨_, rfl, h⟩
section
variable {prog : Program} {w : World} {A : Around} {E : Value → Shared → Prop} {s : Shared}
theorem enum_begins1 {v : Value} {o : Obj} {H : Heap → Prop} {Q : Value → Shared → Prop} (B : Begins v o H) (h1 : H s.heap)
    (h : ∀ h', IsEnum h' (s.heap.objs.size + 1) s.heap.objs.size 0 .none → h'.get? s.heap.objs.size = some o → h'.objs.size = s.heap.objs.size + 2 →
      (∀ b o, s.heap.get? b = some o → h'.get? b = some o) → Q (.ref (s.heap.objs.size + 1)) { s with heap := h' }) :
    wpAny (model prog w) A (call (.type "enumerate") [v]) Q E s := by
  refine callType_new F.called_enumerate (by decide) (F.typeCall_enumerate_1 _) (F.newCall_enumerate_1 _) (fun obj => F.args_object_init_2 obj _) F.entry_enumerate_new
    (meets_enumerate_newB1 B) ⟨h1, ?_⟩
  have hz : (s.heap.push o).objs.size = s.heap.objs.size + 1 := Heap.size_push ..
  show _ ∧ _
  rw [hz]
  have he : IsEnum ((s.heap.push o).push { cls := .type "enumerate", data := .fields #[.none, .bool false, .ref s.heap.objs.size, rawInt 0, .none, .none] }) (s.heap.objs.size + 1) s.heap.objs.size 0 .none := by
    have := Heap.get?_push_size (s.heap.push o) (o := { cls := .type "enumerate", data := .fields #[.none, .bool false, .ref s.heap.objs.size, rawInt 0, .none, .none] }) rfl
    rw [hz] at this; exact this
  refine ⟨⟨_, he, rfl⟩, h _ he (Heap.get?_push_of_some _ (Heap.get?_push_size _ B.free)) (by rw [Heap.size_push, hz]) fun b o x => Heap.get?_push_of_some _ (Heap.get?_push_of_some _ x)⟩
end
end PySem

namespace L2
open PySem PySem.Spec PyProof.Rows
/-- sorted(t), t a tuple of ints -/
def rSortedTI (K : PySem.W.Frag) : List V → Hp → VK → Prop := fun vs H Q => ∃ (a : Addr) (ns : List Int), vs = [V.ref a] ∧ SqT K H a (ns.map V.int) ∧
  ∀ (ns' : List Int) (p : Addr), ns'.Perm ns → ns'.Pairwise (· ≤ ·) → H p = none → Q (.ref p) (upd H p (.lst (ns'.map V.int)))
/-- sorted(xs), xs a list of one item at most -/
def rSorted1 (K : PySem.W.Frag) : List V → Hp → VK → Prop := fun vs H Q => ∃ (a : Addr) (xs : List V), vs = [V.ref a] ∧ SqL K H a xs ∧ xs.length ≤ 1 ∧ ∀ p, H p = none → Q (.ref p) (upd H p (.lst xs))
section
variable {X : Cx}
theorem cr_sortedTI : CallR X (.builtin "sorted") (rSortedTI X.K) := by
  intro pins s σ H vs us Q I r h
  obtain ⟨a, ns, rfl, hs, q⟩ := h
  obtain ⟨its, rv, hl, hz⟩ := I.tuple hs
  rw [Vals.ref1 r]
  have hi := rv.ints
  refine SrtO.sorted_ordT SrtO.swo_int (show s.heap.IsTuple a its.toArray from hl) (by rw [← rv.length]; exact hz) (fun h2 h₁ a' _ _ => SrtO.ints_sortable hi h2) fun out h1 h2 => ?_
  obtain ⟨k1, k2, k3⟩ := SrtO.ints_out hi h1 h2
  obtain ⟨ep, he'⟩ := PyProof.Rows.sortedAll_at s.heap its out.toArray
  have hlen : ((out.map SrtO.iv).map V.int).length ≤ sizeLine := by
    rw [List.length_map, k2.length_eq]
    rw [List.length_map] at hz
    exact hz
  exact ⟨.ref _, upd H (s.heap.objs.size + 1) (.lst ((out.map SrtO.iv).map V.int)), I.laid (t' := s.toks) (fun _ _ => PyProof.Rows.sortedAll_old) (Nat.le_succ _) ⟨hlen, out, ep, vals_of_ints k1, he'⟩, rfl, q _ _ k2 k3 (I.hok.fresh (Nat.le_succ _))⟩
theorem cr_sorted1 : CallR X (.builtin "sorted") (rSorted1 X.K) := by
  intro pins s σ H vs us Q I r h
  obtain ⟨a, xs, rfl, hs, h1, q⟩ := h
  obtain ⟨its, rv, hl, hz⟩ := I.list hs
  rw [Vals.ref1 r]
  have hn := rv.length
  refine SrtO.sorted_ord (ltv := fun _ _ => false) ⟨by intros; simp_all, by intros; simp_all⟩ hl.isList (by rw [← hn]; exact hz) (fun h2 => by omega) fun out h2 h3 => ?_
  have e : out = its := by
    have p := h3.perm
    have hn1 : its.length ≤ 1 := by omega
    cases its with
    | nil => exact List.perm_nil.mp p
    | cons x r =>
      cases r with
      | nil => exact List.perm_singleton.mp p
      | cons _ _ => simp at hn1
  subst e
  obtain ⟨ep, he'⟩ := PyProof.Rows.sortedAll_at s.heap out out.toArray
  exact ⟨.ref _, upd H (s.heap.objs.size + 1) (.lst xs), I.laid (t' := s.toks) (fun _ _ => PyProof.Rows.sortedAll_old) (Nat.le_succ _) ⟨hz, out, ep, rv, he'⟩, rfl, q _ (I.hok.fresh (Nat.le_succ _))⟩
/-- the tuple at a, its items numbered -/
def IteT (K : PySem.W.Frag) (a : Addr) : It :=
  ⟨fun i H => ∃ (xs : List V) (x : V), SqT K H a xs ∧ xs[i]? = some x, fun i H v H' => ∃ T x, v = .ref T ∧ H T = none ∧ H' = upd H T (.tup [.int (i : Nat), x]) ∧ ∀ xs, SqT K H a xs → xs[i]? = some x, fun i H => ∃ xs : List V, SqT K H a xs ∧ xs.length = i⟩
theorem tup_ne {h : Heap} {a b : Addr} {xs : Array Value} {o : Obj} {T : String} (p : h.IsTuple a xs) (ho : h.get? b = some o) (hc : o.cls = .type T) (hT : T ≠ "tuple") : a ≠ b := fun e => by
  subst e
  obtain ⟨u, hu, c, _⟩ := p
  rw [ho] at hu
  cases hu
  rw [hc] at c
  exact hT (Value.type.inj c)
theorem turn_enumT {P : Program} {w : World} {K : PySem.W.Frag} {elts : List Expr} {kk : Nat} {tpos : Pos} (a e it : Addr) :
    Turn P w K (.Tuple elts kk tpos) (IteT K a) [e, it] e (fun i h => (∃ old, IsEnum h e it ((i : Nat) : Int) old) ∧ h.IsTupleIter it a i ∧ e ≠ it) where
  mem := by simp
  obj := fun i h st b hb => by
    obtain ⟨⟨old, he⟩, ⟨o, ho, hc, hd⟩, _⟩ := st
    have e' : b = e ∨ b = it := by simpa using hb
    rcases e' with z | z
    · rw [z]; exact ⟨_, he, fun v q => nomatch q⟩
    · rw [z]; exact ⟨o, ho, fun v q => by rw [hd] at q; cases q⟩
  keep := fun i h h' st k => let ⟨⟨old, he⟩, hi, hne⟩ := st; ⟨⟨old, k e (by simp) _ he⟩, hi.at fun o q => k it (by simp) o q, hne⟩
  item := by
    intro X hP hw hK hc i pins s σ H E I hf st hg
    subst hP hw hK
    obtain ⟨⟨old, he⟩, hit, hne⟩ := st
    obtain ⟨xs, x, hq, hx⟩ := hg
    obtain ⟨its, rv, p, hz⟩ := I.tuple hq
    have p : s.heap.IsTuple a its.toArray := p
    obtain ⟨u, hu, ru⟩ := rv.get hx
    have hel : e < s.heap.objs.size := Heap.lt_size he
    have hil : it < s.heap.objs.size := by obtain ⟨_, q, _⟩ := hit; exact Heap.lt_size q
    have nae : a ≠ e := tup_ne p he rfl (by decide)
    have nai : a ≠ it := by
      obtain ⟨o, ho, hc', _⟩ := hit
      exact tup_ne p ho hc' (by decide)
    have hlt : i < its.toArray.size := by
      have := (List.getElem?_eq_some_iff.mp hu).1
      simpa using this
    have hA : X.A.handled = none := I.ok.hd hc
    refine wpAny_pyNext_enum_itemD (PySem.Draws.tuple (A := X.A.in1) hA it a nai its.toArray) he ⟨hit, p⟩ hlt hne (by simp [hne, nae.symm]) fun y h' tk hy ho st' hT hsz hk => ?_
    obtain rfl : u = y := by
      have : its.toArray[i]? = some u := by simpa using hu
      rw [this] at hy
      exact Option.some.inj hy
    refine ⟨_, rfl, wpAny_letOwnedTupleGo_enum (s := { s with heap := h', toks := tk + 1 }) ho fun h'' he' sb => ?_⟩
    have hT2 : h''.get? s.heap.objs.size = some { cls := .type "tuple", data := .seq #[.int i tk, u] } := (sb.2 _ (Nat.ne_of_gt hel)).trans hT
    have new : ObjOk X.prog X.w (upd H s.heap.objs.size (.tup [.int (i : Nat), x])) h'' s.heap.objs.size (.tup [.int (i : Nat), x]) :=
      ⟨by show 2 ≤ sizeLine; decide, [.int i tk, u], .cons ⟨_, rfl⟩ (.cons ru .nil), ⟨_, hT2, rfl, _, rfl⟩⟩
    have I1 : Inv X pins σ (upd H s.heap.objs.size (.tup [.int (i : Nat), x])) { s with heap := h'', toks := tk + 1 } :=
      I.turnedNew (ch := [e, it]) (fun b ob hb q => (sb.2 b (fun z => hb (by simp [z]))).trans (hk b ob (fun z => hb (by simp [z])) (fun z => hb (by simp [z])) q)) hf (Nat.le_refl _) new
    refine ⟨.ref s.heap.objs.size, _, I1, rfl, ⟨_, x, rfl, I.hok.fresh (Nat.le_refl _), rfl, fun ys hy => by rw [I.tuple_inj hy hq]; exact hx⟩, ⟨⟨u, ?_⟩, st'.1.at fun o q => (sb.2 it (Ne.symm hne)).trans q, hne⟩, fun b hb => ?_⟩
    · have e1 : ((i + 1 : Nat) : Int) = (i : Int) + 1 := by omega
      rw [e1]; exact he'
    · have hb' : b < s.heap.objs.size := by
        have e' : b = e ∨ b = it := by simpa using hb
        rcases e' with z | z
        · rw [z]; exact hel
        · rw [z]; exact hil
      rw [upd_ne (Nat.ne_of_lt hb')]
      exact (hf b hb).1
  done := by
    intro X hP hw hK hc i pins s σ H E I hf st hg
    subst hP hw hK
    obtain ⟨⟨old, he⟩, hit, hne⟩ := st
    obtain ⟨xs, hq, hx⟩ := hg
    obtain ⟨its, rv, p, hz⟩ := I.tuple hq
    have p : s.heap.IsTuple a its.toArray := p
    obtain ⟨f0, f1, f2, f3, f4, f5⟩ := hf it (by simp)
    have hl := rv.length
    have nai : a ≠ it := by
      obtain ⟨o, ho, hc', _⟩ := hit
      exact tup_ne p ho hc' (by decide)
    have hA : X.A.handled = none := I.ok.hd hc
    have en : its.toArray.size = i := by simp; omega
    subst en
    exact wpAny_pyNext_enum_endD (PySem.Draws.tuple (A := X.A.in1) hA it a nai its.toArray) he ⟨hit, p⟩ fun h' eb => ⟨rfl, I.turned (t' := s.toks) (fun b o hb q => eb b o hb q) f0 f1 f3 f4 f5⟩
  self := fun A i s Q E st h => let ⟨⟨_, he⟩, _⟩ := st; wpAny_pyIter_enum he h
/-- enumerate(t), t a tuple -/
def iEnumT (K : PySem.W.Frag) (ta : TA) : TI := fun σ H R => ta σ H fun vs H1 => ∃ a xs, vs = [.ref a] ∧ SqT K H1 a xs ∧ R (IteT K a) H1
theorem pi_enumT {e : Expr} {ta : TA} {p pos tpos : Pos} {elts : List Expr} {kk : Nat} (hg : Gl X "enumerate") (hm : X.mg "enumerate" = none) (ha : PA X [e] ta) (hs : starEach [e] X.env = [(false, eval e X.env)] := by rfl) :
    PI X (.Tuple elts kk tpos) (.Call (.Name "enumerate" p) [e] [] pos) (iEnumT X.K ta) := by
  refine ⟨fun pins s σ H R I h => ?_⟩
  refine Call_ (ld_blt I hg hm boot_enumerate (PyProof.Rows.callWith_type1 (thn (ha.run pos pins s σ H _ I h) fun us s1 ⟨vs, H1, I1, r1, q1⟩ => ?_) hs rfl))
  obtain ⟨a, xs, ex, hq, q⟩ := q1
  subst ex
  cases r1 with
  | cons r rr =>
    cases rr
    cases r
    obtain ⟨its, rv, p', hz⟩ := I1.tuple hq
    have p' : s1.heap.IsTuple a its.toArray := p'
    refine enum_begins1 (begins_tuple a its.toArray) p' fun h' he hit hsz hk => wpAny_pyIter_enum he ?_
    have I2 : Inv X pins σ H1 { s1 with heap := h' } := I1.kept (t' := s1.toks) hk
    refine ⟨s1.heap.objs.size + 1, [s1.heap.objs.size + 1, s1.heap.objs.size], _, _, H1, rfl, I2, turn_enumT a (s1.heap.objs.size + 1) s1.heap.objs.size, ⟨⟨.none, he⟩, ⟨_, hit, rfl, rfl⟩, Nat.succ_ne_self _⟩, fun b hb => ?_, q⟩
    have e' : b = s1.heap.objs.size + 1 ∨ b = s1.heap.objs.size := by simpa using hb
    have hle : s1.heap.objs.size ≤ b := by
      rcases e' with z | z
      · rw [z]; exact Nat.le_add_right _ _
      · rw [z]; exact Nat.le_refl _
    exact I1.fpOk hle (I1.hok.fresh hle)
/-- either of both -/
def iEnumA (K : PySem.W.Frag) (ta : TA) : TI := fun σ H R => ta σ H fun vs H1 => ∃ a xs, vs = [.ref a] ∧ ((SqL K H1 a xs ∧ R (Ite K a) H1) ∨ (SqT K H1 a xs ∧ R (IteT K a) H1))
theorem pi_enumA {e : Expr} {ta : TA} {p pos tpos : Pos} {elts : List Expr} {kk : Nat} (hg : Gl X "enumerate") (hm : X.mg "enumerate" = none) (ha : PA X [e] ta) (hs : starEach [e] X.env = [(false, eval e X.env)] := by rfl) :
    PI X (.Tuple elts kk tpos) (.Call (.Name "enumerate" p) [e] [] pos) (iEnumA X.K ta) := by
  refine ⟨fun pins s σ H R I h => ?_⟩
  refine Call_ (ld_blt I hg hm boot_enumerate (PyProof.Rows.callWith_type1 (thn (ha.run pos pins s σ H _ I h) fun us s1 ⟨vs, H1, I1, r1, q1⟩ => ?_) hs rfl))
  obtain ⟨a, xs, ex, q1⟩ := q1
  subst ex
  cases r1 with
  | cons r rr =>
    cases rr
    cases r
    have fp : ∀ b ∈ [s1.heap.objs.size + 1, s1.heap.objs.size], FpOk X pins H1 b := fun b hb => by
      have e' : b = s1.heap.objs.size + 1 ∨ b = s1.heap.objs.size := by simpa using hb
      have hle : s1.heap.objs.size ≤ b := by
        rcases e' with z | z
        · rw [z]; exact Nat.le_add_right _ _
        · rw [z]; exact Nat.le_refl _
      exact I1.fpOk hle (I1.hok.fresh hle)
    rcases q1 with ⟨hq, q⟩ | ⟨hq, q⟩
    · obtain ⟨its, rv, p', hz⟩ := I1.list hq
      refine call_enumerate_list p'.isList fun h' he hit hsz hk => wpAny_pyIter_enum he ?_
      have I2 : Inv X pins σ H1 { s1 with heap := h' } := I1.kept (t' := s1.toks) hk
      exact ⟨s1.heap.objs.size + 1, [s1.heap.objs.size + 1, s1.heap.objs.size], _, _, H1, rfl, I2, turn_enum a (s1.heap.objs.size + 1) s1.heap.objs.size, ⟨⟨.none, he⟩, hit, Nat.succ_ne_self _⟩, fp, q⟩
    · obtain ⟨its, rv, p', hz⟩ := I1.tuple hq
      have p' : s1.heap.IsTuple a its.toArray := p'
      refine enum_begins1 (begins_tuple a its.toArray) p' fun h' he hit hsz hk => wpAny_pyIter_enum he ?_
      have I2 : Inv X pins σ H1 { s1 with heap := h' } := I1.kept (t' := s1.toks) hk
      exact ⟨s1.heap.objs.size + 1, [s1.heap.objs.size + 1, s1.heap.objs.size], _, _, H1, rfl, I2, turn_enumT a (s1.heap.objs.size + 1) s1.heap.objs.size, ⟨⟨.none, he⟩, ⟨_, hit, rfl, rfl⟩, Nat.succ_ne_self _⟩, fp, q⟩
def rSortedA (K : PySem.W.Frag) : List V → Hp → VK → Prop := fun vs H Q => ∃ (a : Addr) (ns : List Int), vs = [V.ref a] ∧ (SqL K H a (ns.map V.int) ∨ SqT K H a (ns.map V.int)) ∧
  ∀ (ns' : List Int) (p : Addr), ns'.Perm ns → ns'.Pairwise (· ≤ ·) → H p = none → Q (.ref p) (upd H p (.lst (ns'.map V.int)))
theorem cr_sortedA : CallR X (.builtin "sorted") (rSortedA X.K) := by
  intro pins s σ H vs us Q I r h
  obtain ⟨a, ns, e, hs, q⟩ := h
  rcases hs with hs | hs
  · exact cr_sortedI pins s σ H vs us Q I r ⟨a, ns, e, hs, q⟩
  · exact cr_sortedTI pins s σ H vs us Q I r ⟨a, ns, e, hs, q⟩
def iSeqA (K : PySem.W.Frag) (tl : TE) : TI := fun σ H R => tl σ H fun x H1 => ∃ a xs, x = .ref a ∧ ((SqL K H1 a xs ∧ R (Itl K a) H1) ∨ (SqT K H1 a xs ∧ R (Itt K a) H1))
theorem pi_seqA {tg l : Expr} {tl : TE} (hl : PE X l tl) : PI X tg l (iSeqA X.K tl) := by
  refine ⟨fun pins s σ H R I h => ?_⟩
  refine thn (hl.run pins s σ H _ I h) fun v s1 ⟨x, H1, I1, r1, q1⟩ => ?_
  obtain ⟨a, xs, e, q1⟩ := q1
  subst e
  cases r1
  have fp : ∀ b ∈ [s1.heap.objs.size], FpOk X pins H1 b := fun b hb => by
    have e : b = s1.heap.objs.size := by simpa using hb
    subst e
    exact I1.fpOk (Nat.le_refl _) (I1.hok.fresh (Nat.le_refl _))
  rcases q1 with ⟨hq, q⟩ | ⟨hq, q⟩
  · obtain ⟨its, rv, p, hz⟩ := I1.list hq
    exact wpAny_pyIter_list p.isList ⟨s1.heap.objs.size, [s1.heap.objs.size], _, _, H1, rfl, I1.kept (t' := s1.toks) fun b o e => Heap.get?_push_of_some _ e, turn_list a _, ⟨_, Heap.get?_push_size _ rfl, rfl, rfl⟩, fp, q⟩
  · obtain ⟨its, rv, p, hz⟩ := I1.tuple hq
    exact wpAny_pyIter_tuple (show s1.heap.IsTuple a its.toArray from p) ⟨s1.heap.objs.size, [s1.heap.objs.size], _, _, H1, rfl, I1.kept (t' := s1.toks) fun b o e => Heap.get?_push_of_some _ e, turn_tuple a _, ⟨_, Heap.get?_push_size _ rfl, rfl, rfl⟩, fp, q⟩
/-! ### a text times an int -/
def rMulS : R2 := fun x y H Q => ∃ z n, x = .str z ∧ y = .int n ∧ MulOk z n ∧ Q (.str (Txt.mul z n)) H
theorem op_mulS : OpR X (binaryOp .Mult) rMulS := by
  intro pins s σ H x y v u Q I rx ry h
  obtain ⟨z, n, rfl, rfl, ok, q⟩ := h
  obtain ⟨t, rfl⟩ := rx
  obtain ⟨t', rfl⟩ := ry
  exact PySem.SB.mul ok fun t2 k => ⟨.str _, H, I.tok k, ⟨t2, rfl⟩, q⟩
/-! ### match x: case 'a': .. case 'b': .. -/
structure PMs (X : Cx) (cases : List MatchCase) (t : V → TS) : Prop where
  run : ∀ (pins : List (Addr × Obj)) (s : Shared) (σ : St) (H : Hp) (v : V) (u : Value) (D : Ends) (first : Bool), Inv X pins σ H s → RelV v u → t v D σ H → wpAny (model X.prog X.w) X.A (matchCases cases X.env u first) (SP X pins D) X.xe s
def mNil : V → TS := fun _ D σ H => D.nx σ H
def mCons (z : Str) (tb : TS) (tr : V → TS) : V → TS := fun v D σ H => ∃ y, v = .str y ∧ if y = z then tb D σ H else tr v D σ H
theorem pms_nil : PMs X [] mNil := ⟨fun pins s σ H v u D first I r h => wpAny_matchCases_nil ⟨σ, H, I, h⟩⟩
theorem pms_cons {z : Str} {k : Nat} {p1 p2 : Pos} {body : List Stmt} {rest : List MatchCase} {tb : TS} {tr : V → TS} (hb : PSs X body tb) (hr : PMs X rest tr) :
    PMs X (⟨.MatchValue (.Constant (.str z) k p1) p2, none, body⟩ :: rest) (mCons z tb tr) := by
  refine ⟨fun pins s σ H v u D first I r h => ?_⟩
  obtain ⟨y, rfl, h⟩ := h
  refine wpAny_matchCases_cons (wpAny_matchPattern_Value ?_)
  refine thn ((pe_str (X := X) (x := z) (j := k) (pos := p1)).run pins s σ H (fun v H' => v = .str z ∧ H' = H) I ⟨rfl, rfl⟩) fun x s1 ⟨w, H1, I1, rw', e1, e2⟩ => ?_
  subst e1 e2
  refine thn (op_eq (X := X) pins s1 σ H1 (.str y) (.str z) u x (fun v H' => v = .bl (decide (V.str y = V.str z)) ∧ H' = H1) I1 r rw' ⟨rfl, rfl, rfl⟩) fun c s2 ⟨w, H2, I2, r2, e3, e4⟩ => ?_
  subst e3 e4
  cases (show c = Value.bool _ from r2)
  refine wpAny_truthy_bool ?_
  by_cases e : y = z
  · rw [if_pos e] at h
    subst e
    rw [decide_eq_true rfl]
    refine wpAny_assignInOrder_none ?_
    exact hb.run pins s2 σ H2 D I2 h
  · rw [if_neg e] at h
    rw [decide_eq_false (fun q => e (V.str.inj q))]
    exact hr.run pins s2 σ H2 (.str y) u D false I2 r h
def tMatch (te : TE) (tm : V → TS) : TS := fun D σ H => te σ H fun v H1 => tm v D σ H1
theorem ps_match {e : Expr} {cases : List MatchCase} {pos : Pos} {te : TE} {tm : V → TS} (he : PE X e te) (hm : PMs X cases tm) : PS X (.Match e cases pos) (tMatch te tm) := by
  refine ⟨fun pins s σ H D I h => ?_⟩
  exact wpAny_Match (thn (he.run pins s σ H _ I h) fun u s1 ⟨v, H1, I1, r, q⟩ => hm.run pins s1 σ H1 v u D true I1 r q)
end
end L2
/-! ### xs.extend(a tuple) -/
namespace K37
open PySem PyProof PyProof.Rows L2
open PySem.Builtin PySem.AutoSeq1 in
theorem list_extend_tuple (l : Addr) (items : Array Value) (n : Nat) (b : Addr) (items2 : Array Value) (n2 : Nat) (dd : Option Addr) (sl : Array (Option Value)) (hs0 : ¬(!items.isEmpty && Builtin.List.listTooLong (items.size + items2.size)) = true) (hs1 : items.size ≤ sizeLine) (hs2 : items.size + items2.size ≤ sizeLine + 1) :
    Meets (Builtin.«list.extend» ⟨[.ref l, .ref b], []⟩) (fun _ R s => s.heap.get? l = some { cls := .type "list", dict := none, data := .seq items n, slots := #[] } ∧ s.heap.get? b = some { cls := .type "tuple", dict := dd, data := .seq items2 n2, slots := sl } ∧ R (.ok (.ret Value.none)) { s with heap := s.heap.update l (Obj.mapSeq fun x => x ++ items2), toks := s.toks }) :=
  .of_wp fun prog w A R s h => by
    obtain ⟨hp, g, d, tk, os⟩ := s; obtain ⟨hl, hb, h⟩ := h; have f1 := idx_int; have f2 := AutoSeq1.sub_tuple_tuple; have f3 := AutoSeq1.sub_list_list; have f4 := AutoSeq1.sub_tuple_list; have f5 := AutoSeq1.sub_list_tuple;
    have hz' : (items ++ items2).size ≤ sizeLine + 1 := by rw [Array.size_append]; exact hs2
    wp_walk using (wpAny_updateSeq hl rfl (hz := hs1) (_hz' := hz')), wpAny_loadPart' hl, wpAny_loadPart' hb; exact ⟨_, rfl, h⟩
def rExtendT (K : PySem.W.Frag) : V → List V → Hp → VK → Prop := fun x vs H Q => ∃ l b xs zs, x = .ref l ∧ vs = [.ref b] ∧ H l = some (.lst xs) ∧ SqT K H b zs ∧ xs.length + zs.length ≤ sizeLine ∧ Q .non (upd H l (.lst (xs ++ zs)))
theorem mt_extendT {X : Cx} {K : PySem.W.Frag} (hK : X.K = K := by rfl) : MtM X "list.extend" (rExtendT K) := by
  subst hK
  intro pins s σ H x vs v us Q I rx rv h
  obtain ⟨l, b, xs, zs, rfl, rfl, hH, hB, hz, q⟩ := h
  cases rx
  obtain ⟨u, rfl, ru⟩ := rv.one
  cases ru
  obtain ⟨z, its, n, r, hl, e⟩ := I.lstM hH
  obtain ⟨its2, r2, ⟨o, e2, hc, n2, hd⟩, hz2⟩ := I.tuple hB
  have hl2 := r2.length
  have hsz : its.toArray.size + its2.toArray.size ≤ sizeLine := by rw [List.size_toArray, List.size_toArray]; omega
  have hlong : ¬ (!its.toArray.isEmpty && Builtin.List.listTooLong (its.toArray.size + its2.toArray.size)) = true := by
    rw [notLongL hsz, Bool.and_false]
    exact Bool.false_ne_true
  obtain ⟨oc, od, dat, osl⟩ := o
  subst hc hd
  refine call_meets F.slot_list_extend ⟨_, e, rfl⟩ F.entry_list_extend (F.args_list_extend_2 _ _)
    (list_extend_tuple l its.toArray n b its2.toArray n2 od osl hlong (by rw [List.size_toArray]; omega) (by omega)) ⟨e, e2, ?_⟩
  refine ⟨.non, _, I.lset (its' := its ++ its2) hH e (by simp) (r.append r2) ?_, rfl, q⟩
  rw [List.length_append]
  omega
end K37
/-! K37P: plain laws, no program in sight: lots, cases, the peel. -/
namespace K37
/-- a case: a lot and its answer -/
abbrev Case := List Int × List Int
abbrev minusL (A B : List Int) : List Int := A.filter fun x => !decide (x ∈ B)
def insideB (A B : List Int) : Bool := A.all fun x => decide (x ∈ B)
def barredC (left : List Int) (c : Case) : List Int := if insideB c.1 left then minusL c.1 c.2 else []
def nextT (cs : List Case) (left : List Int) : Option Int := (minusL left (cs.flatMap (barredC left))).head?
/-- what is taken, what is left -/
def peel (cs : List Case) : Nat → List Int → List Int → List Int × List Int
  | 0, left, taken => (taken, left)
  | k + 1, left, taken => match nextT cs left with
    | none => (taken, left)
    | some x => peel cs k (minusL left [x]) (taken ++ [x])
def firstOf (os A : List Int) : Int := (os.find? fun x => decide (x ∈ A)).getD (-1)
def fitsB (os : List Int) (cs : List Case) : Bool := cs.all fun c => decide (firstOf os c.1 ∈ c.2)
def narC (cs : List Case) (i : Nat) (c : Case) (x : Int) : List Case := cs.take i ++ [(c.1, [x])] ++ cs.drop (i + 1)
end K37
/-! K37D: the text by names, the facts of the written part, defs with their promises. -/
namespace K37
open PySem PyProof.Rows L2
open Evl (Ex)

/-! ### the text by names -/
def top (i : Nat) : Stmt := PySem.Challenge.pw_newsbooks_k37_whole_made_of_orders.main.body.getD i (.Pass ⟨0, 0, 0, 0⟩)
abbrev st_whole_number : Stmt := top 13
abbrev st_is_row : Stmt := top 14
abbrev st_check_worlds : Stmt := top 15
abbrev st_is_world : Stmt := top 16
abbrev st_first_stranger : Stmt := top 17
abbrev st_lot_of : Stmt := top 18
abbrev st_every : Stmt := top 19
abbrev st_minus : Stmt := top 21
abbrev st_inside : Stmt := top 22
abbrev st_lot_list : Stmt := top 23
abbrev st__told_pair : Stmt := top 26
abbrev st__told_steps : Stmt := top 27
abbrev st_told_family : Stmt := top 29
abbrev st_told_of : Stmt := top 30
abbrev st__said_order : Stmt := top 32
abbrev st_fits_told : Stmt := top 33
abbrev st__next_taken : Stmt := top 34
abbrev st__taken_and_left : Stmt := top 35
abbrev st_torn_told : Stmt := top 36
abbrev st_narrowed_told : Stmt := top 37
abbrev st__order_or_tear : Stmt := top 38
abbrev st_orders_told : Stmt := top 39
abbrev st_why_no_orders : Stmt := top 40
abbrev st_check_table_worlds : Stmt := top 43
abbrev st_lot_or_none : Stmt := top 44
abbrev st_table_pair : Stmt := top 45
abbrev st_lot_bits : Stmt := top 48
abbrev st_bits_lot : Stmt := top 49
abbrev st_pair_breaks : Stmt := top 54
abbrev st_first_break : Stmt := top 55
abbrev st_has_wish : Stmt := top 56
abbrev st_is_kind : Stmt := top 57
abbrev st__law_draws : Stmt := top 59
abbrev st__law_take : Stmt := top 60
abbrev st__law_int : Stmt := top 61
abbrev st__law_lots : Stmt := top 62
abbrev st__law_lot : Stmt := top 63
abbrev st__law_some : Stmt := top 64
abbrev st__law_common : Stmt := top 65
abbrev st__law_plus : Stmt := top 66
abbrev st__law_inside : Stmt := top 67
abbrev st__law_size : Stmt := top 68
abbrev st__law_handed : Stmt := top 69
abbrev st__law_says : Stmt := top 70
abbrev st__law_orders : Stmt := top 71
abbrev st__law_first : Stmt := top 72
abbrev st__law_order_fits : Stmt := top 73
abbrev st__law_torn : Stmt := top 74
abbrev st__law_greatest_torn : Stmt := top 75
abbrev st__law_spoil : Stmt := top 76
abbrev st__law_made : Stmt := top 77
abbrev st__law_order_refused : Stmt := top 78
abbrev st__law_place_refused : Stmt := top 79
abbrev st__law_refusals : Stmt := top 80
abbrev st__law_order_good : Stmt := top 81
abbrev st__law_wanted : Stmt := top 82
abbrev st__law_lacking : Stmt := top 83
abbrev st__law_judged : Stmt := top 84
abbrev st_law : Stmt := top 85
abbrev st_Told___init__ : Stmt := inClass (top 28) 0
abbrev st_Told___eq__ : Stmt := inClass (top 28) 3
abbrev st_Table___init__ : Stmt := inClass (top 46) 0
abbrev st_Table_answer : Stmt := inClass (top 46) 6
abbrev st_BadNumber___init__ : Stmt := inClass (top 3) 0
abbrev st_BadOrder___init__ : Stmt := inClass (top 8) 0
/-! ### a def of the top, and its promise -/
structure Df (K : PySem.W.Frag) (mg : PySem.Str → Option Value) (x : PySem.Str) (st : Stmt) : Prop where
  fn : ∃ fd, FunD K x x (defArgs st) (defBody st) (defScope st) [] [] (He.ga K x) fd
  mg : mg x = some (.ref (He.ga K x))
structure DfK (K : PySem.W.Frag) (mg : PySem.Str → Option Value) (x : PySem.Str) (st : Stmt) (kws : List (PySem.Str × V)) : Prop where
  fn : ∃ fd, FunD K x x (defArgs st) (defBody st) (defScope st) [] kws (He.ga K x) fd
  mg : mg x = some (.ref (He.ga K x))
structure OkF (P : Program) (w : World) (K : PySem.W.Frag) (mg : PySem.Str → Option Value) (base : Heap) (CX : CXT) (x : PySem.Str) (k : Nat) (ps : List PySem.Str) (sp : Sp) : Prop where
  fn : ∃ fd, FnOk P w K mg base CX k (He.ga K x) fd ps sp ∧ Binds K fd ps []
  kp : PySem.W.keepIn K (.ref (He.ga K x)) = true
  mg : mg x = some (.ref (He.ga K x))
theorem Df.ok {P : Program} {w : World} {K : PySem.W.Frag} {mg : PySem.Str → Option Value} {base : Heap} {CX : CXT} {x : PySem.Str} {st : Stmt} {N ps : List PySem.Str} {k : Nat} {sp : Sp} (F : Df K mg x st) (S : FnScope N ps (defScope st))
    (hb : ∀ (kV doc pm : Value) (an : Option Addr) (cdv ct : Value) (us : List Value), us.length = ps.length → bindArgs (PySem.W.fnOf x x (defArgs st) (defBody st) (defScope st) .none kV doc pm an cdv ct) ⟨us, []⟩ = pure (ps.zip us))
    (len : ∀ vs H Q E, sp vs H Q E → vs.length = ps.length)
    (hbody : ∀ (cdv : Value) (A : Around) (outer : List Env) (s : Shared) (H : Hp) (vs : List V) (Q : VK) (E : XK), Room k (A.deeper (envOfC x (defScope st) s.heap.objs.size (He.ga K x) cdv)) → sp vs H Q E →
      ∃ t, PSs (cxOf CX P w K mg base N x (defScope st) (He.ga K x) cdv A outer s H E) (defBody st) t ∧ t { nx := fun _ H' => Q .non H', rt := Q } (L2.start N vs) H) : OkF P w K mg base CX x (k + 1) ps sp := by
  obtain ⟨fd, fn⟩ := F.fn
  exact ⟨⟨fd, FunD.ok fn S len hbody, fn.bindsN hb⟩, fn.kp, F.mg⟩
section
variable {X : Cx} {CX : CXT} {x : PySem.Str} {k : Nat} {ps : List PySem.Str} {sp : Sp} {p pos : Pos} {e : Expr} {es : List Expr} {t : TA}
theorem pe_callO (F : OkF X.prog X.w X.K X.mg X.base CX0 x k ps sp) (hr : Room k X.A) (ha : PA X (e :: es) t) (hg : Gl X x := by rfl)
    (hdb : (x == ("__debug__" : PySem.Str)) = false := by decide) (he : starEach (e :: es) X.env = (false, eval e X.env) :: starEach es X.env := by rfl) (hpl : (backTo pos (starEach es X.env)).any (·.1) = false := by rfl) :
    PE X (.Call (.Name x p) (e :: es) [] pos) (tCall sp [] E0 t) := by
  obtain ⟨fd, F1, F2⟩ := F.fn
  exact pe_call F1 hr hg F.mg F.kp F2 .nil pass0 ha hdb he hpl
end
/-- a def called f(a, b, k = c) -/
structure OkK (P : Program) (w : World) (K : PySem.W.Frag) (mg : PySem.Str → Option Value) (base : Heap) (CX : CXT) (x : PySem.Str) (k : Nat) (ps : List PySem.Str) (n : Nat) (ks : List PySem.Str) (sp : Sp) : Prop where
  fn : ∃ fd, FnOk P w K mg base CX k (He.ga K x) fd ps sp ∧ KBn K fd ps n ks (fun us ws => us ++ ws) (fun vs zs => vs ++ zs)
  kp : PySem.W.keepIn K (.ref (He.ga K x)) = true
  mg : mg x = some (.ref (He.ga K x))
theorem DfK.ok {P : Program} {w : World} {K : PySem.W.Frag} {mg : PySem.Str → Option Value} {base : Heap} {CX : CXT} {x : PySem.Str} {st : Stmt} {kws : List (PySem.Str × V)} {N ps : List PySem.Str} {k n : Nat} {ks : List PySem.Str} {sp : Sp} (F : DfK K mg x st kws) (S : FnScope N ps (defScope st))
    (hb : ∀ (kV doc pm : Value) (an : Option Addr) (cdv ct : Value) (s : Shared) (us ws : List Value), us.length = n → ws.length = ks.length → BindsTo s (PySem.W.fnOf x x (defArgs st) (defBody st) (defScope st) .none kV doc pm an cdv ct) ⟨us, ks.zip ws⟩ (ps.zip (us ++ ws)))
    (len : ∀ vs H Q E, sp vs H Q E → vs.length = ps.length)
    (hbody : ∀ (cdv : Value) (A : Around) (outer : List Env) (s : Shared) (H : Hp) (vs : List V) (Q : VK) (E : XK), Room k (A.deeper (envOfC x (defScope st) s.heap.objs.size (He.ga K x) cdv)) → sp vs H Q E →
      ∃ t, PSs (cxOf CX P w K mg base N x (defScope st) (He.ga K x) cdv A outer s H E) (defBody st) t ∧ t { nx := fun _ H' => Q .non H', rt := Q } (L2.start N vs) H) : OkK P w K mg base CX x (k + 1) ps n ks sp := by
  obtain ⟨fd, fn⟩ := F.fn
  refine ⟨⟨fd, FunD.ok fn S len hbody, ?_⟩, fn.kp, F.mg⟩
  obtain ⟨oc, od, dV, kV, doc, pm, an, cdv, ct, osl, rfl, lk, hcd, hD, _⟩ := fn.ex
  rcases hD with ⟨_, rfl⟩ | ⟨e, _⟩
  · exact ⟨fun s us ws _ h1 h2 => hb kV doc pm an cdv ct s us ws h1 h2, fun r1 r2 => r1.append r2⟩
  · exact absurd rfl e
/-- a class's own __init__ -/
structure OkI (P : Program) (w : World) (K : PySem.W.Frag) (mg : PySem.Str → Option Value) (base : Heap) (CX : CXT) (C : PySem.Str) (k : Nat) (ps : List PySem.Str) (sp : Sp) : Prop where
  fn : ∃ fd, FnOk P w K mg base CX k (He.ma K (He.ga K C) "__init__") fd ps sp ∧ Binds K fd ps []
  mak : Mk K (He.ga K C) (He.ma K (He.ga K C) "__init__")
  mg : mg C = some (.ref (He.ga K C))
/-- a class's method -/
structure OkM (P : Program) (w : World) (K : PySem.W.Frag) (mg : PySem.Str → Option Value) (base : Heap) (CX : CXT) (C m : PySem.Str) (k : Nat) (ps : List PySem.Str) (sp : Sp) : Prop where
  fn : ∃ fd, FnOk P w K mg base CX k (He.ma K (He.ga K C) m) fd ps sp ∧ Binds K fd ps []
  meth : Meth K (He.ga K C) m (He.ma K (He.ga K C) m)
  cls : Cls K (He.ga K C)
/-- a method of the text -/
structure Dm (K : PySem.W.Frag) (C m qual : PySem.Str) (st : Stmt) : Prop where
  fn : ∃ fd, FunD K m qual (defArgs st) (defBody st) (defScope st) [] [] (He.ma K (He.ga K C) m) fd
theorem Dm.ok {P : Program} {w : World} {K : PySem.W.Frag} {mg : PySem.Str → Option Value} {base : Heap} {CX : CXT} {C m qual : PySem.Str} {st : Stmt} {N ps : List PySem.Str} {k : Nat} {sp : Sp} (F : Dm K C m qual st) (S : FnScope N ps (defScope st))
    (hb : ∀ (kV doc pm : Value) (an : Option Addr) (cdv ct : Value) (us : List Value), us.length = ps.length → bindArgs (PySem.W.fnOf m qual (defArgs st) (defBody st) (defScope st) .none kV doc pm an cdv ct) ⟨us, []⟩ = pure (ps.zip us))
    (len : ∀ vs H Q E, sp vs H Q E → vs.length = ps.length)
    (hbody : ∀ (cdv : Value) (A : Around) (outer : List Env) (s : Shared) (H : Hp) (vs : List V) (Q : VK) (E : XK), Room k (A.deeper (envOfC qual (defScope st) s.heap.objs.size (He.ma K (He.ga K C) m) cdv)) → sp vs H Q E →
      ∃ t, PSs (cxOf CX P w K mg base N qual (defScope st) (He.ma K (He.ga K C) m) cdv A outer s H E) (defBody st) t ∧ t { nx := fun _ H' => Q .non H', rt := Q } (L2.start N vs) H) :
    ∃ fd, FnOk P w K mg base CX (k + 1) (He.ma K (He.ga K C) m) fd ps sp ∧ Binds K fd ps [] := by
  obtain ⟨fd, fn⟩ := F.fn
  exact ⟨fd, FunD.ok fn S len hbody, fn.bindsN hb⟩
section
variable {X : Cx} {x C m : PySem.Str} {k n : Nat} {ps ks : List PySem.Str} {sp : Sp} {p pos apos : Pos} {e o : Expr} {es : List Expr} {kws : List Keyword} {t tk : TA} {ta : TE}
theorem pe_callKW (F : OkK X.prog X.w X.K X.mg X.base CX0 x k ps n ks sp) (hr : Room k X.A) (ha : PA X (e :: es) t) (hkw : PK X kws tk) (hg : Gl X x := by rfl) (hall : (backToKw pos (keywordEach kws X.env)).all (·.1.isSome) = true := by rfl) (hks : (backToKw pos (keywordEach kws X.env)).filterMap (·.1) = ks := by rfl)
    (hdb : (x == ("__debug__" : PySem.Str)) = false := by decide) (he : starEach (e :: es) X.env = (false, eval e X.env) :: starEach es X.env := by rfl)
    (hpl : ((backTo pos (starEach (e :: es) X.env)).any (·.1) || (backToKw pos (keywordEach kws X.env)).any (·.1.isNone)) = false := by rfl) :
    PE X (.Call (.Name x p) (e :: es) kws pos) (tCallN n ks.length sp (fun vs zs => vs ++ zs) E0 t tk) := by
  obtain ⟨fd, F1, F2⟩ := F.fn
  exact pe_callN F1 hr hg F.mg F.kp F2 pass0 ha hkw hall hks hdb he hpl
theorem pe_makeO (F : OkI X.prog X.w X.K X.mg X.base CX0 C k ps sp) (hr : Room (k + 1) X.A) (ha : PA X (e :: es) t) (hg : Gl X C := by rfl)
    (hdb : (C == ("__debug__" : PySem.Str)) = false := by decide) (he : starEach (e :: es) X.env = (false, eval e X.env) :: starEach es X.env := by rfl) (hpl : (backTo pos (starEach es X.env)).any (·.1) = false := by rfl) :
    PE X (.Call (.Name C p) (e :: es) [] pos) (tMake (He.ga X.K C) sp [] E0 t) := by
  obtain ⟨fd, F1, F2⟩ := F.fn
  exact pe_make F.mak F1 hr hg F.mg F2 .nil pass0 ha hdb he hpl
theorem pe_methO {pl : Sem Bool} (F : OkM X.prog X.w X.K X.mg X.base CX0 C m k ps sp) (hr : Room k X.A) (he : PE X o ta) (ha : PA X (e :: es) t)
    (hst : starEach (e :: es) X.env = (false, eval e X.env) :: starEach es X.env := by rfl) (hpl : (backTo pos (starEach es X.env)).any (·.1) = false := by rfl)
    (ht : eval (.Call (.Attribute o m apos) (e :: es) [] pos) X.env = (do
      let ov ← eval o X.env
      standAt apos.atName
      let (f, first) ← holding [ov] (getMethod ov m pl)
      callWith pos f first (backTo pos (starEach (e :: es) X.env)) (backToKw pos (keywordEach [] X.env))) := by rfl) :
    PE X (.Call (.Attribute o m apos) (e :: es) [] pos) (tMeth (He.ga X.K C) m sp [] E0 ta t) := by
  obtain ⟨fd, F1, F2⟩ := F.fn
  exact pe_meth he F.cls F.meth F1 hr F2 .nil pass0 ha hst hpl ht
end
/-! ### the rules with K by name: what they say does not hang on the context (a comprehension's block) -/
section
variable {X : Cx} {K : PySem.W.Frag}
theorem op_in_k (h : X.K = K := by rfl) : OpR X (compareOp .In) (rIn K false) := h ▸ op_in_seq
theorem op_notIn_k (h : X.K = K := by rfl) : OpR X (compareOp .NotIn) (rIn K true) := h ▸ op_notIn_seq
theorem ix_list_k (h : X.K = K := by rfl) : IxR X (rIxL K) := h ▸ ix_list
theorem ix_tup_k (h : X.K = K := by rfl) : IxR X (rIxT K) := h ▸ ix_tup
theorem ix_seq_k (h : X.K = K := by rfl) : IxR X (rIx K) := h ▸ ix_seq
theorem call_len_k (h : X.K = K := by rfl) : CallR X (.builtin "len") (fun xs H Q => ∃ p ys, xs = [.ref p] ∧ (SqL K H p ys ∨ SqT K H p ys) ∧ Q (.int ys.length) H) := h ▸ call_len_seq
theorem cr_all_k (hc : X.calm = true) (h : X.K = K := by rfl) : CallR X (.builtin "all") (rAll K) := h ▸ cr_all hc
theorem cr_sum_k (hc : X.calm = true) (h : X.K = K := by rfl) : CallR X (.builtin "sum") (rSum K) := h ▸ cr_sum hc
theorem cr_sorted_k (h : X.K = K := by rfl) : CallR X (.builtin "sorted") (rSortedA K) := h ▸ cr_sortedA
theorem cr_sorted1_k (h : X.K = K := by rfl) : CallR X (.builtin "sorted") (rSorted1 K) := h ▸ cr_sorted1
theorem call_tuple_k (h : X.K = K := by rfl) : CallR X (.type "tuple") (fun xs H Q => ∃ p ys, xs = [.ref p] ∧ ((SqL K H p ys ∧ ∀ l, H l = none → Q (.ref l) (upd H l (.tup ys))) ∨ (SqT K H p ys ∧ Q (.ref p) H))) := h ▸ call_tuple_of
theorem call_list_k (h : X.K = K := by rfl) : CallR X (.type "list") (fun xs H Q => ∃ p ys, xs = [.ref p] ∧ (SqL K H p ys ∨ SqT K H p ys) ∧ ∀ l, H l = none → Q (.ref l) (upd H l (.lst ys))) := h ▸ call_list_of
theorem call_isi_k (h : X.K = K := by rfl) : CallR X (.builtin "isinstance") (rIsi K) := h ▸ call_isi
theorem call_isiT_k (h : X.K = K := by rfl) : CallR X (.builtin "isinstance") (rIsiT K) := h ▸ call_isiT
theorem sl_list_k (h : X.K = K := by rfl) : L2.SlR X (rSlL K) := h ▸ sl_list
theorem sl_tup_k (h : X.K = K := by rfl) : L2.SlR X (rSlA K) := h ▸ sl_tupA
theorem op_catT_k (h : X.K = K := by rfl) : OpR X (binaryOp .Add) (rCatA K) := h ▸ op_catA
theorem op_eqD_k (hu : X.A.units + 64 < cLine) (h : X.K = K := by rfl) : OpR X (compareOp .Eq) (rEqD K) := h ▸ op_eqD hu
theorem op_neD_k (hu : X.A.units + 64 < cLine) (h : X.K = K := by rfl) : OpR X (compareOp .NotEq) (rNeD K) := h ▸ op_neD hu
theorem op_inD_k (hu : X.A.units + 65 < cLine) (h : X.K = K := by rfl) : OpR X (compareOp .In) (rInD K) := h ▸ op_inD hu
theorem op_notInD_k (hu : X.A.units + 65 < cLine) (h : X.K = K := by rfl) : OpR X (compareOp .NotIn) (rNotInD K) := h ▸ op_notInD hu
variable {e : Expr} {es : List Expr} {ta te : TE} {t : TA} {f : PySem.Str} {p pos tpos : Pos} {n kk : Nat} {gs : TGs} {tg : Expr}
theorem pe_fld_k (he : PE X e ta) (h : X.K = K := by rfl) (hb : attributeBase e f X.env (eval e X.env) = eval e X.env := by rfl) : PE X (.Attribute e f pos) (tFld K ta f) := h ▸ pe_fld he hb
theorem pi_seq_k (hl : PE X e te) (h : X.K = K := by rfl) : PI X tg e (iSeqA K te) := h ▸ pi_seqA hl
theorem pi_enum_k (hm : X.mg "enumerate" = none) (ha : PA X [e] t) (h : X.K = K := by rfl) (hg : Gl X "enumerate" := by rfl) (hs : starEach [e] X.env = [(false, eval e X.env)] := by rfl) :
    PI X (.Tuple es kk tpos) (.Call (.Name "enumerate" p) [e] [] pos) (iEnumA K t) := h ▸ pi_enumA hg hm ha hs
theorem pg_tup_k (hc : X.calm = true) (hg : PGs X es gs) (h : X.K = K := by rfl) (hn : (assignEach es X.env).length = n := by rfl) (hst : (assignEach es X.env).findIdx? (·.1) = none := by rfl) : PG X (.Tuple es kk tpos) (gTup K n gs) := h ▸ pg_tup hc hg hn hst
theorem pt_truth_k (ha : PE X e ta) (he : ∀ whole, isTrue e X.env whole = (do let v ← whole; standAt e.pos; holding [v] (truthy v)) := by intro _; rfl) (h : X.K = K := by rfl) : PT X e (fun σ H Q => ta σ H fun x H' => ∃ k, TruV K x H' k ∧ Q k H') := h ▸ pt_truth ha he
theorem pe_revL_k {k : Nat} {p1 p2 p3 : Pos} (he : PE X e te) (h : X.K = K := by rfl) : PE X (.Subscript e (.Slice none none (some (.UnaryOp .USub (.Constant (.int 1) k p1) p2)) p3) pos) (tRevL K te) := h ▸ pe_revL he
theorem pe_makeO_k {C : PySem.Str} {k : Nat} {ps : List PySem.Str} {sp : Sp} (F : OkI X.prog X.w X.K X.mg X.base CX0 C k ps sp) (hr : Room (k + 1) X.A) (ha : PA X (e :: es) t) (h : X.K = K := by rfl) (hg : Gl X C := by rfl)
    (hdb : (C == ("__debug__" : PySem.Str)) = false := by decide) (he : starEach (e :: es) X.env = (false, eval e X.env) :: starEach es X.env := by rfl) (hpl : (backTo pos (starEach es X.env)).any (·.1) = false := by rfl) :
    PE X (.Call (.Name C p) (e :: es) [] pos) (tMake (He.ga K C) sp [] E0 t) := h ▸ pe_makeO F hr ha hg hdb he hpl
theorem pe_methO_k {C m : PySem.Str} {k : Nat} {ps : List PySem.Str} {sp : Sp} {o : Expr} {apos : Pos} {pl : Sem Bool} (F : OkM X.prog X.w X.K X.mg X.base CX0 C m k ps sp) (hr : Room k X.A) (he : PE X o ta) (ha : PA X (e :: es) t) (h : X.K = K := by rfl)
    (hst : starEach (e :: es) X.env = (false, eval e X.env) :: starEach es X.env := by rfl) (hpl : (backTo pos (starEach es X.env)).any (·.1) = false := by rfl)
    (ht : eval (.Call (.Attribute o m apos) (e :: es) [] pos) X.env = (do
      let ov ← eval o X.env
      standAt apos.atName
      let (f, first) ← holding [ov] (getMethod ov m pl)
      callWith pos f first (backTo pos (starEach (e :: es) X.env)) (backToKw pos (keywordEach [] X.env))) := by rfl) :
    PE X (.Call (.Attribute o m apos) (e :: es) [] pos) (tMeth (He.ga K C) m sp [] E0 ta t) := h ▸ pe_methO F hr he ha hst hpl ht
end
/-- what the top has written -/
structure Tx (K : PySem.W.Frag) (mg : PySem.Str → Option Value) : Prop where
  d_whole_number : Df K mg "whole_number" st_whole_number
  d_is_row : Df K mg "is_row" st_is_row
  d_check_worlds : Df K mg "check_worlds" st_check_worlds
  d_is_world : Df K mg "is_world" st_is_world
  d_first_stranger : Df K mg "first_stranger" st_first_stranger
  d_lot_of : DfK K mg "lot_of" st_lot_of [("empty", .bl true)]
  d_every : Df K mg "every" st_every
  d_minus : Df K mg "minus" st_minus
  d_inside : Df K mg "inside" st_inside
  d_lot_list : Df K mg "lot_list" st_lot_list
  d__told_pair : Df K mg "_told_pair" st__told_pair
  d__told_steps : Df K mg "_told_steps" st__told_steps
  d_told_family : Df K mg "told_family" st_told_family
  d_told_of : Df K mg "told_of" st_told_of
  d__said_order : Df K mg "_said_order" st__said_order
  d_fits_told : Df K mg "fits_told" st_fits_told
  d__next_taken : Df K mg "_next_taken" st__next_taken
  d__taken_and_left : Df K mg "_taken_and_left" st__taken_and_left
  d_torn_told : Df K mg "torn_told" st_torn_told
  d_narrowed_told : Df K mg "narrowed_told" st_narrowed_told
  d__order_or_tear : Df K mg "_order_or_tear" st__order_or_tear
  d_orders_told : Df K mg "orders_told" st_orders_told
  d_why_no_orders : Df K mg "why_no_orders" st_why_no_orders
  d_check_table_worlds : Df K mg "check_table_worlds" st_check_table_worlds
  d_lot_or_none : Df K mg "lot_or_none" st_lot_or_none
  d_table_pair : Df K mg "table_pair" st_table_pair
  d_lot_bits : Df K mg "lot_bits" st_lot_bits
  d_bits_lot : Df K mg "bits_lot" st_bits_lot
  d_pair_breaks : Df K mg "pair_breaks" st_pair_breaks
  d_first_break : Df K mg "first_break" st_first_break
  d_has_wish : Df K mg "has_wish" st_has_wish
  d_is_kind : Df K mg "is_kind" st_is_kind
  d__law_draws : Df K mg "_law_draws" st__law_draws
  d__law_take : Df K mg "_law_take" st__law_take
  d__law_int : Df K mg "_law_int" st__law_int
  d__law_lots : Df K mg "_law_lots" st__law_lots
  d__law_lot : Df K mg "_law_lot" st__law_lot
  d__law_some : Df K mg "_law_some" st__law_some
  d__law_common : Df K mg "_law_common" st__law_common
  d__law_plus : Df K mg "_law_plus" st__law_plus
  d__law_inside : Df K mg "_law_inside" st__law_inside
  d__law_size : Df K mg "_law_size" st__law_size
  d__law_handed : Df K mg "_law_handed" st__law_handed
  d__law_says : Df K mg "_law_says" st__law_says
  d__law_orders : Df K mg "_law_orders" st__law_orders
  d__law_first : Df K mg "_law_first" st__law_first
  d__law_order_fits : Df K mg "_law_order_fits" st__law_order_fits
  d__law_torn : Df K mg "_law_torn" st__law_torn
  d__law_greatest_torn : Df K mg "_law_greatest_torn" st__law_greatest_torn
  d__law_spoil : Df K mg "_law_spoil" st__law_spoil
  d__law_made : Df K mg "_law_made" st__law_made
  d__law_order_refused : Df K mg "_law_order_refused" st__law_order_refused
  d__law_place_refused : Df K mg "_law_place_refused" st__law_place_refused
  d__law_refusals : Df K mg "_law_refusals" st__law_refusals
  d__law_order_good : Df K mg "_law_order_good" st__law_order_good
  d__law_wanted : Df K mg "_law_wanted" st__law_wanted
  d__law_lacking : Df K mg "_law_lacking" st__law_lacking
  d__law_judged : Df K mg "_law_judged" st__law_judged
  d_law : Df K mg "law" st_law
  b_isinstance : mg "isinstance" = none
  b_len : mg "len" = none
  b_all : mg "all" = none
  b_sum : mg "sum" = none
  b_sorted : mg "sorted" = none
  b_min : mg "min" = none
  b_tuple : mg "tuple" = none
  b_list : mg "list" = none
  b_int : mg "int" = none
  b_bool : mg "bool" = none
  b_range : mg "range" = none
  b_enumerate : mg "enumerate" = none
  c_told : Cls K (He.ga K "Told")
  n_told_w : NoAttr K (He.ga K "Told") "worlds"
  n_told_c : NoAttr K (He.ga K "Told") "cases"
  n_told_p : NoAttr K (He.ga K "Told") "comparisons"
  n_told_s : NoAttr K (He.ga K "Told") "sources"
  m_told : Mk K (He.ga K "Told") (He.ma K (He.ga K "Told") "__init__")
  g_told : mg "Told" = some (.ref (He.ga K "Told"))
  d_told_init : Dm K "Told" "__init__" "Told.__init__" st_Told___init__
  d_told_eq : Dm K "Told" "__eq__" "Told.__eq__" st_Told___eq__
  c_table : Cls K (He.ga K "Table")
  n_table_w : NoAttr K (He.ga K "Table") "worlds"
  n_table_p : NoAttr K (He.ga K "Table") "pairs"
  n_table_t : NoAttr K (He.ga K "Table") "_told"
  m_table : Mk K (He.ga K "Table") (He.ma K (He.ga K "Table") "__init__")
  g_table : mg "Table" = some (.ref (He.ga K "Table"))
  d_table_init : Dm K "Table" "__init__" "Table.__init__" st_Table___init__
  d_table_answer : Dm K "Table" "answer" "Table.answer" st_Table_answer
  meth_answer : Meth K (He.ga K "Table") "answer" (He.ma K (He.ga K "Table") "answer")
  MOST_TOLD_mg : ∃ t, mg "MOST_TOLD" = some (.int 80 t)
  TABLE_WORLDS_mg : ∃ t, mg "TABLE_WORLDS" = some (.int 6 t)
  WISHES_mg : mg "WISHES" = some (.ref (He.ga K "WISHES"))
  KINDS_mg : mg "KINDS" = some (.ref (He.ga K "KINDS"))
  KIND_WISHES_mg : mg "KIND_WISHES" = some (.ref (He.ga K "KIND_WISHES"))
  wishes : ∀ H, SqT K H (He.ga K "WISHES") [.str "heritage", .str "unite", .str "outcast", .str "cross", .str "arrow", .str "single"]
  kinds : ∀ H, SqT K H (He.ga K "KINDS") [.str "ringless", .str "orders", .str "parts", .str "stretches", .str "rank", .str "strict"]
/-- the written dict KIND_WISHES, at the key that the law asks -/
structure Tw (K : PySem.W.Frag) (w : World) : Prop where
  kw : ∃ t, KDct K w (He.ga K "KIND_WISHES") "orders" (.ref t) ∧ ∀ H, SqT K H t [.str "heritage", .str "outcast"]
/-- the law's surroundings: what all defs lean on -/
structure Sur (P : Program) (w : World) (K : PySem.W.Frag) (mg : PySem.Str → Option Value) (base : Heap) : Prop where
  t : Tx K mg
/-! ### built-ins -/
theorem boot_isinstance : bootBuiltins "isinstance" = some (.builtin "isinstance") := by decide +kernel
theorem boot_len : bootBuiltins "len" = some (.builtin "len") := by decide +kernel
theorem boot_all : bootBuiltins "all" = some (.builtin "all") := by decide +kernel
theorem boot_sum : bootBuiltins "sum" = some (.builtin "sum") := by decide +kernel
theorem boot_sorted : bootBuiltins "sorted" = some (.builtin "sorted") := by decide +kernel
theorem boot_min : bootBuiltins "min" = some (.builtin "min") := by decide +kernel
theorem boot_tuple : bootBuiltins "tuple" = some (.type "tuple") := by decide +kernel
theorem boot_list : bootBuiltins "list" = some (.type "list") := by decide +kernel
theorem boot_int : bootBuiltins "int" = some (.type "int") := by decide +kernel
theorem boot_bool : bootBuiltins "bool" = some (.type "bool") := by decide +kernel
/-! ### isinstance -/
def tyD : Dt → String
  | .non => "NoneType"
  | .bl _ => "bool"
  | .int _ => "int"
  | .str _ => "str"
  | .tup _ => "tuple"
  | .lst _ => "list"
  | .told _ _ _ => "object"
  | .tbl _ _ _ _ => "object"
def noObj : Dt → Bool
  | .told _ _ _ => false
  | .tbl _ _ _ _ => false
  | _ => true
theorem tyX_of {K : PySem.W.Frag} {d : Dt} {v : V} {B H : Hp} (h : Has d v B) (e : Ex B H) (n : noObj d = true) : TyX K H v (.type (tyD d)) := by
  cases d with
  | non =>
    rw [show v = .non from h]
    exact .base .non
  | bl b =>
    rw [show v = .bl b from h]
    exact .base (.bl b)
  | int b =>
    rw [show v = .int b from h]
    exact .base (.int b)
  | str b =>
    rw [show v = .str b from h]
    exact .base (.str b)
  | tup ds =>
    obtain ⟨a, xs, rfl, ha, _⟩ := h
    exact .base (.tup (e a _ ha))
  | lst ds =>
    obtain ⟨a, xs, rfl, ha, _⟩ := h
    exact .base (.lst (e a _ ha))
  | told C n c => cases n
  | tbl C n c ps => cases n
section
variable {D : Option Addr} {ρ : List Sl} {ta : TE} {d : Dt} {K : PySem.W.Frag}
theorem ev_isi {n : String} {b : Bool} (h : EV D ta ρ d) (hk : kitB (tyD d) n = some b) (hn : noObj d = true) : EV D (tCB (rIsi K) (tCons ta (tCons (tC (.ty n)) tNil))) ρ (.bl b) := fun σ B H l Q q => h σ B H l _ fun v x B1 H1 px g1 hv => by
  subst px
  exact ⟨v, .ty n, _, _, b, rfl, .ty n, tyX_of hv g1.i hn, kit_ty hk, q _ _ B1 H1 rfl g1 rfl⟩
theorem ev_isi2 {n m : String} {b c : Bool} (h : EV D ta ρ d) (hk : kitB (tyD d) n = some b) (hm : kitB (tyD d) m = some c) (hn : noObj d = true) :
    EV D (tCB (rIsiT K) (tCons ta (tCons (tTup (tCons (tC (.ty n)) (tCons (tC (.ty m)) tNil))) tNil))) ρ (.bl (b || c)) := fun σ B H l Q q => h σ B H l _ fun v x B1 H1 px g1 hv => by
  subst px
  refine ⟨(by show 2 ≤ sizeLine; decide), fun p hp => ?_⟩
  refine ⟨v, p, [.ty n, .ty m], _, [.type n, .type m], b || c, rfl, upd_same, .cons (.ty n) (.cons (.ty m) .nil), tyX_of hv (g1.i.trans (Ex.new hp)) hn, ?_, ?_⟩
  · refine kitAny_cons (kit_ty hk) (fun e => ?_) (fun e => by rw [e]; rfl)
    subst e
    refine kitAny_cons (kit_ty hm) (fun e => ?_) (fun e => by rw [e]; rfl)
    subst e
    exact kitAny_nil
  · exact q _ _ B1 _ rfl (g1.trans (Gr.newO g1.i hp)) rfl
end
/-! ### the entry of a def -/
def args0 : List Dt → Nat → List Sl
  | ds, n => ds.map Sl.dat ++ List.replicate (n - ds.length) Sl.any
theorem rl_dats {D : Option Addr} {B H : Hp} (e : Ex B H) (hd : ∀ a, D = some a → Dr a B H) : ∀ {ds : List Dt} {vs : List V}, HasL ds vs B → ∀ n, Rl D (ds.map Sl.dat ++ List.replicate n Sl.any) (vs.map some ++ List.replicate n none) B H := by
  intro ds vs h n
  refine ⟨e, by simp [h.length], fun i => ?_, hd⟩
  by_cases l : i < ds.length
  · rw [List.getElem?_append_left (by simpa using l), List.getElem?_append_left (by simpa [h.length] using l), List.getElem?_map, List.getElem?_map]
    have q : ds[i]? = some ds[i] := List.getElem?_eq_getElem l
    obtain ⟨v, e1, e2⟩ := h.get' q
    rw [q, e1]
    exact ⟨v, rfl, e2⟩
  · rw [List.getElem?_append_right (by simpa using l)]
    rw [List.getElem?_replicate]
    split
    · trivial
    · trivial
theorem no_own {ds : List Dt} {n : Nat} (i : Nat) (es : List Dt) : (ds.map Sl.dat ++ List.replicate n Sl.any)[i]? ≠ some (Sl.own es) := by
  intro h
  have m := List.mem_of_getElem? h
  rcases List.mem_append.mp m with m | m
  · obtain ⟨d, _, e⟩ := List.mem_map.mp m
    cases e
  · have := (List.mem_replicate.mp m).2
    cases this
/-- a def that is handed data: its promise, opened -/
theorem pf_open {α : Type} {pre : α → Prop} {args : α → List Dt} {res : α → Dt → Prop} {vs : List V} {H : Hp} {Q : VK} {E : XK} {N : List PySem.Str} (h : PF pre args res vs H Q E) :
    ∃ (x : α) (B : Hp), pre x ∧ Ex B H ∧ Sta none B H B ((args x).map Sl.dat ++ List.replicate (N.length - (args x).length) Sl.any) (L2.start N vs) B H ∧ ∀ v d B2 H2, res x d → Gr none B H B2 H2 → Has d v B2 → Q v H2 := by
  obtain ⟨x, B, px, e, hl, k⟩ := h
  refine ⟨x, B, px, e, ?_, k⟩
  unfold L2.start
  rw [hl.length]
  exact Sta.start e (rl_dats e (fun _ z => by cases z) hl _) fun i ds => no_own i ds
/-- the same behind the draws -/
theorem pd_open {α : Type} {pre : α → Prop} {args : α → List Dt} {res : α → Dt → Prop} {vs : List V} {H : Hp} {Q : VK} {E : XK} {N : List PySem.Str} (h : PD pre args res vs H Q E) :
    ∃ (x : α) (B : Hp) (a : Addr), pre x ∧ Ex B H ∧ Dr a B H ∧ Sta (some a) B H B (Sl.drw :: ((args x).map Sl.dat ++ List.replicate (N.length - 1 - (args x).length) Sl.any)) (L2.start N vs) B H ∧ ∀ v d B2 H2, res x d → Gr (some a) B H B2 H2 → Has d v B2 → Q v H2 := by
  obtain ⟨x, B, a, ws, px, e, dr, rfl, hl, k⟩ := h
  refine ⟨x, B, a, px, e, dr, ?_, k⟩
  have hd : ∀ b, some a = some b → Dr b B H := fun b z => by
    cases z
    exact dr
  have r := rl_dats e hd hl (N.length - 1 - (args x).length)
  unfold L2.start
  rw [List.map_cons, List.length_cons, hl.length, show N.length - ((args x).length + 1) = N.length - 1 - (args x).length by omega]
  refine Sta.start e ⟨e, by simpa using r.len, fun i => ?_, hd⟩ fun i ds h => ?_
  · cases i with
    | zero => exact ⟨a, rfl, rfl⟩
    | succ i => exact r.at_ i
  · cases i with
    | zero => cases h
    | succ i => exact no_own i ds h
end K37
/-! K37S: more judgements. -/
namespace K37
open PySem PyProof.Rows L2
open Evl (Ex)
theorem walkD_enumT {K : PySem.W.Frag} {a : Addr} {xs : List V} {ds : List Dt} {B : Hp} (h : B a = some (.tup xs)) (hl : HasL ds xs B) : WalkD (IteT K a) (enumD 0 ds) B where
  goes := fun i H hi e => by
    rw [enumD_len] at hi
    exact ⟨xs, xs[i]'(by rw [hl.length]; exact hi), SqT.of (e a _ h), by simp⟩
  stops := fun H e => ⟨xs, SqT.of (e a _ h), by rw [enumD_len, hl.length]⟩
  yields := fun i B1 H x H' hi e1 e2 y => by
    rw [enumD_len] at hi
    obtain ⟨T, w, rfl, hT, rfl, h2⟩ := y
    obtain ⟨d, q, hd⟩ := hl.get (h2 xs (SqT.of (e2 a _ (e1 a _ h))))
    refine ⟨.tup [.int ((i : Nat) : Int), d], upd B1 T (.tup [.int (i : Nat), w]), ?_, fun D => Gr.new e2 hT, ⟨T, _, rfl, upd_same, ?_⟩⟩
    · rw [enumD_get, q, Nat.zero_add]
      rfl
    · exact HasL.cons rfl (HasL.one ((hd.mono e1).mono (Ex.new (ex_none e2 hT))))
section
variable {D : Option Addr} {ρ : List Sl} {ta tb te : TE} {ds es : List Dt} {d : Dt} {K : PySem.W.Frag}
theorem ei_enumT (h : EV D te ρ (.tup ds)) : EI D (iEnumT K (tCons te tNil)) ρ (enumD 0 ds) := fun σ B H l R q => h σ B H l _ fun v x B1 H1 px g1 hv => by
  subst px
  obtain ⟨a, xs, rfl, ha, hl⟩ := hv
  exact ⟨a, xs, rfl, SqT.of (g1.i a _ ha), q _ _ B1 H1 rfl g1 (walkD_enumT ha hl)⟩
theorem ei_enumA (h : EV D te ρ d) (hd : d = .lst ds ∨ d = .tup ds) : EI D (iEnumA K (tCons te tNil)) ρ (enumD 0 ds) := fun σ B H l R q => h σ B H l _ fun v x B1 H1 px g1 hv => by
  subst px
  rcases hd with rfl | rfl
  · obtain ⟨a, xs, rfl, ha, hl⟩ := hv
    exact ⟨a, xs, rfl, .inl ⟨SqL.of (g1.i a _ ha), q _ _ B1 H1 rfl g1 (walkD_enum ha hl)⟩⟩
  · obtain ⟨a, xs, rfl, ha, hl⟩ := hv
    exact ⟨a, xs, rfl, .inr ⟨SqT.of (g1.i a _ ha), q _ _ B1 H1 rfl g1 (walkD_enumT ha hl)⟩⟩
theorem ei_seqA (h : EV D te ρ d) (hd : d = .lst ds ∨ d = .tup ds) : EI D (iSeqA K te) ρ ds := fun σ B H l R q => h σ B H l _ fun v x B1 H1 px g1 hv => by
  subst px
  rcases hd with rfl | rfl
  · obtain ⟨a, xs, rfl, ha, hl⟩ := hv
    exact ⟨a, xs, rfl, .inl ⟨SqL.of (g1.i a _ ha), q _ _ B1 H1 rfl g1 (walkD_list ha hl)⟩⟩
  · obtain ⟨a, xs, rfl, ha, hl⟩ := hv
    exact ⟨a, xs, rfl, .inr ⟨SqT.of (g1.i a _ ha), q _ _ B1 H1 rfl g1 (walkD_tup ha hl)⟩⟩
theorem ei_to {wi : TI} (h : EI D wi ρ ds) (e : ds = es) : EI D wi ρ es := e ▸ h
theorem rangeD_ints {lo : Int} {n : Nat} : rangeD lo n = intsD ((List.range n).map fun i => lo + (i : Nat)) := by
  unfold rangeD intsD
  rw [List.map_map]
  rfl
/-- 0 .. n - 1 -/
def upto (n : Nat) : List Int := (List.range n).map fun i => ((i : Nat) : Int)
theorem rangeD0 {n : Nat} : rangeD 0 n = intsD (upto n) := by
  rw [rangeD_ints]
  unfold upto
  congr 1
  apply List.map_congr_left
  intro i _
  omega
theorem upto_len {n : Nat} : (upto n).length = n := by
  unfold upto
  simp
theorem mem_upto {n : Nat} {x : Int} : x ∈ upto n ↔ 0 ≤ x ∧ x < n := by
  unfold upto
  rw [List.mem_map]
  constructor
  · rintro ⟨i, hi, rfl⟩
    rw [List.mem_range] at hi
    omega
  · rintro ⟨h1, h2⟩
    exact ⟨x.toNat, by rw [List.mem_range]; omega, by omega⟩
theorem upto_get {n i : Nat} (h : i < n) : (upto n)[i]? = some (i : Int) := by
  unfold upto
  rw [List.getElem?_map, List.getElem?_range h]
  rfl
theorem enum_get {α : Type} {f : α → Dt} {as : List α} {i : Nat} : (enumD 0 (as.map f))[i]? = (as[i]?).map fun a => Dt.tup [.int (i : Nat), f a] := by
  rw [enumD_get, List.getElem?_map]
  cases as[i]? with
  | none => rfl
  | some a =>
    show some _ = some _
    rw [Nat.zero_add]
/-- enumerate as a list of pairs -/
def enumP {α : Type} : Nat → List α → List (Nat × α)
  | _, [] => []
  | i, a :: as => (i, a) :: enumP (i + 1) as
theorem enumD_map {α : Type} (f : α → Dt) : ∀ (as : List α) (k : Nat), enumD k (as.map f) = (enumP k as).map fun p => Dt.tup [.int ((p.1 : Nat) : Int), f p.2]
  | [], _ => rfl
  | a :: as, k => by
    show _ :: enumD (k + 1) (as.map f) = _ :: _
    rw [enumD_map f as (k + 1)]
theorem enumP_get {α : Type} : ∀ (as : List α) (k i : Nat), (enumP k as)[i]? = (as[i]?).map fun a => (k + i, a)
  | [], _, _ => rfl
  | a :: as, k, 0 => rfl
  | a :: as, k, i + 1 => by
    show (enumP (k + 1) as)[i]? = (as[i]?).map _
    rw [enumP_get as (k + 1) i]
    have e : k + 1 + i = k + (i + 1) := by omega
    rw [e]
theorem enumP_len {α : Type} : ∀ (as : List α) (k : Nat), (enumP k as).length = as.length
  | [], _ => rfl
  | a :: as, k => congrArg Nat.succ (enumP_len as (k + 1))
/-! ### sorted of ints -/
theorem sorted_uniq {ns ms : List Int} (p : ns.Perm ms) (h1 : ns.Pairwise (· ≤ ·)) (h2 : ms.Pairwise (· ≤ ·)) : ns = ms := List.Perm.eq_of_pairwise (fun a b _ _ h1 h2 => Int.le_antisymm h1 h2) h1 h2 p
theorem eop_sorted {ns : List Int} (h : EV D ta ρ (.lst (intsD ns))) : EOP D (tCB (rSortedI K) (tCons ta tNil)) ρ (fun es => ∃ ms : List Int, ms.Perm ns ∧ ms.Pairwise (· ≤ ·) ∧ es = intsD ms) := fun σ B H l Q q => h σ B H l _ fun v x B1 H1 px g1 hv => by
  subst px
  obtain ⟨a, xs, rfl, ha, hl⟩ := hv
  rw [hasL_ints.mp hl] at ha
  exact ⟨a, ns, rfl, SqL.of (g1.i a _ ha), fun ms p h1 h2 hp => q p _ _ B1 _ ⟨ms, h1, h2, rfl⟩ (g1.trans (Gr.newO g1.i hp)) (g1.none_back l.ex l.dr hp) (ex_none g1.i hp) upd_same (hasL_ints.mpr rfl)⟩
theorem eop_sortedT {ns : List Int} (h : EV D ta ρ (.tup (intsD ns))) : EOP D (tCB (rSortedTI K) (tCons ta tNil)) ρ (fun es => ∃ ms : List Int, ms.Perm ns ∧ ms.Pairwise (· ≤ ·) ∧ es = intsD ms) := fun σ B H l Q q => h σ B H l _ fun v x B1 H1 px g1 hv => by
  subst px
  obtain ⟨a, xs, rfl, ha, hl⟩ := hv
  rw [hasL_ints.mp hl] at ha
  exact ⟨a, ns, rfl, SqT.of (g1.i a _ ha), fun ms p h1 h2 hp => q p _ _ B1 _ ⟨ms, h1, h2, rfl⟩ (g1.trans (Gr.newO g1.i hp)) (g1.none_back l.ex l.dr hp) (ex_none g1.i hp) upd_same (hasL_ints.mpr rfl)⟩
theorem eo_sorted {ns ms : List Int} (h : EV D ta ρ (.lst (intsD ns))) (p : ns.Perm ms) (hm : ms.Pairwise (· ≤ ·)) : EO D (tCB (rSortedI K) (tCons ta tNil)) ρ (intsD ms) := EOP.imp (eop_sorted h) fun es ⟨ks, q, hk, e⟩ => by rw [e, sorted_uniq (q.trans p) hk hm]
theorem eo_sortedT {ns ms : List Int} (h : EV D ta ρ (.tup (intsD ns))) (p : ns.Perm ms) (hm : ms.Pairwise (· ≤ ·)) : EO D (tCB (rSortedTI K) (tCons ta tNil)) ρ (intsD ms) := EOP.imp (eop_sortedT h) fun es ⟨ks, q, hk, e⟩ => by rw [e, sorted_uniq (q.trans p) hk hm]
theorem eo_sortedA {ns ms : List Int} (h : EV D ta ρ d) (hd : d = .lst (intsD ns) ∨ d = .tup (intsD ns)) (p : ns.Perm ms) (hm : ms.Pairwise (· ≤ ·)) : EO D (tCB (rSortedA K) (tCons ta tNil)) ρ (intsD ms) := fun σ B H l Q q => h σ B H l _ fun v x B1 H1 px g1 hv => by
  subst px
  have fin : ∀ (ks : List Int) (p : Addr), ks.Perm ns → ks.Pairwise (· ≤ ·) → H1 p = none → Q (.ref p) (upd H1 p (.lst (ks.map V.int))) := fun ks p' h1 h2 hp => by
    rw [sorted_uniq (h1.trans p) h2 hm]
    exact q p' _ _ B1 _ rfl (g1.trans (Gr.newO g1.i hp)) (g1.none_back l.ex l.dr hp) (ex_none g1.i hp) upd_same (hasL_ints.mpr rfl)
  rcases hd with rfl | rfl
  · obtain ⟨a, xs, rfl, ha, hl⟩ := hv
    rw [hasL_ints.mp hl] at ha
    exact ⟨a, ns, rfl, .inl (SqL.of (g1.i a _ ha)), fin⟩
  · obtain ⟨a, xs, rfl, ha, hl⟩ := hv
    rw [hasL_ints.mp hl] at ha
    exact ⟨a, ns, rfl, .inr (SqT.of (g1.i a _ ha)), fin⟩
/-! ### membership in a list of one's own -/
theorem ev_inO {i : Nat} {x : Int} {ns : List Int} (ha : EV D ta ρ (.int x)) (hi : ρ[i]? = some (.own (intsD ns))) : EV D (tOp (rIn K false) ta (tVar i)) ρ (.bl (decide (x ∈ ns))) := fun σ B H l Q q => ha σ B H l _ fun v y B1 H1 px g1 hv => by
  subst px
  obtain ⟨a, xs, e1, z, hx, hl, nd⟩ := (l.gr g1).own hi
  rw [hasL_ints.mp hl] at hx
  have e2 : v = .int x := hv
  subst e2
  refine ⟨.ref a, e1, a, _, rfl, Or.inl (SqL.of hx), rfl, flat_ints ns, ?_⟩
  show Q (.bl (inV (.int x) (ns.map V.int))) H1
  rw [inV_ints]
  exact q _ _ B1 H1 rfl g1 rfl
/-! ### tuple(range(n)), list(range(n)), xs[::-1] -/
theorem rgV_upto {n : Nat} : rgV 0 (n : Int) = (upto n).map V.int := by
  unfold rgV upto
  rw [List.map_map]
  have e : ((n : Int) - 0).toNat = n := by omega
  rw [e]
  apply List.map_congr_left
  intro i _
  show V.int (0 + (i : Int)) = V.int (i : Int)
  rw [Int.zero_add]
theorem ev_tupRg {n : Nat} (h : EV D te ρ (.int (n : Int))) (hn : n ≤ 1000) : EV D (tTupRg (tRg1 te)) ρ (lotD (upto n)) := fun σ B H l Q q => h σ B H l _ fun v x B1 H1 px g1 hv => by
  subst px
  refine ⟨(n : Int), hv, RgOk.of_le (Int.le_refl 0) (by omega) (by omega) (by omega), fun p hp => ?_⟩
  rw [rgV_upto]
  exact q _ _ (upd B1 p (.tup ((upto n).map V.int))) _ rfl (g1.trans (Gr.new g1.i hp)) ⟨p, _, rfl, upd_same, hasL_ints.mpr rfl⟩
theorem eo_lstRg {n : Nat} (h : EV D te ρ (.int (n : Int))) (hn : n ≤ 1000) : EO D (tLstRg (tRg1 te)) ρ (intsD (upto n)) := fun σ B H l Q q => h σ B H l _ fun v x B1 H1 px g1 hv => by
  subst px
  refine ⟨(n : Int), hv, RgOk.of_le (Int.le_refl 0) (by omega) (by omega) (by omega), fun p hp => ?_⟩
  rw [rgV_upto]
  exact q p _ _ B1 _ rfl (g1.trans (Gr.newO g1.i hp)) (g1.none_back l.ex l.dr hp) (ex_none g1.i hp) upd_same (hasL_ints.mpr rfl)
theorem eo_rev (h : EV D te ρ (.lst ds)) : EO D (tRevL K te) ρ ds.reverse := fun σ B H l Q q => h σ B H l _ fun v x B1 H1 px g1 hv => by
  subst px
  obtain ⟨a, xs, rfl, ha, hl⟩ := hv
  exact ⟨a, xs, rfl, SqL.of (g1.i a _ ha), fun p hp => q p _ _ B1 _ rfl (g1.trans (Gr.newO g1.i hp)) (g1.none_back l.ex l.dr hp) (ex_none g1.i hp) upd_same hl.reverse⟩
/-- d is a list or a tuple of these -/
def IsSeq (d : Dt) (ds : List Dt) : Prop := d = .lst ds ∨ d = .tup ds
theorem ev_ixA {i : Nat} (ha : EV D ta ρ d) (hs : IsSeq d ds) (hb : EV D tb ρ (.int (i : Int))) {x : Dt} (hd : ds[i]? = some x) : EV D (tOp (rIx K) ta tb) ρ x := ev_op ha hb (rd_of fun v w B H e hx hy Q q => by
  rcases hs with rfl | rfl
  · obtain ⟨a, xs, rfl, ha, hl⟩ := hx
    obtain ⟨u, h1, h2⟩ := atI_some hl hd
    exact .inl ⟨a, xs, (i : Int), u, rfl, hy, SqL.of (e a _ ha), h1, q u h2⟩
  · obtain ⟨a, xs, rfl, ha, hl⟩ := hx
    obtain ⟨u, h1, h2⟩ := atI_some hl hd
    exact .inr (.inl ⟨a, xs, (i : Int), u, rfl, hy, SqT.of (e a _ ha), h1, q u h2⟩))
theorem et_truS (h : EV D ta ρ d) (hs : IsSeq d ds) : ET D (fun σ H Q => ta σ H fun x H' => ∃ k, TruV K x H' k ∧ Q k H') ρ (!ds.isEmpty) := by
  rcases hs with rfl | rfl
  · exact et_truL h
  · exact et_truT h
theorem et_truB {b : Bool} (h : EV D ta ρ (.bl b)) : ET D (fun σ H Q => ta σ H fun x H' => ∃ k, TruV K x H' k ∧ Q k H') ρ b := fun σ B H l Q q => h σ B H l _ fun v x B1 H1 px g1 hv => by
  subst px
  have e : v = .bl b := hv
  subst e
  exact ⟨b, rfl, q _ B1 H1 rfl g1⟩
theorem IsSeq.row {ds : List Dt} (h : IsSeq d ds) : noObj d = true := by
  rcases h with rfl | rfl <;> rfl
theorem ev_lenS (h : EV D ta ρ d) (hs : IsSeq d ds) : EV D (tCB (fun xs H Q => ∃ p ys, xs = [.ref p] ∧ (SqL K H p ys ∨ SqT K H p ys) ∧ Q (.int ys.length) H) (tCons ta tNil)) ρ (.int (ds.length : Int)) := ev_len h hs
/-- f(a, b, k = c) -/
theorem ev_callN {α : Type} {pre : α → Prop} {args : α → List Dt} {res : α → Dt → Prop} {t tk : TA} {n m : Nat} (x : α) (px : pre x) {as bs : List Dt} (ha : EA D t ρ as) (hb : EA D tk ρ bs) (e : args x = as ++ bs) (hn : as.length = n) (hm : bs.length = m) :
    EVP D (tCallN n m (PF pre args res) (fun vs zs => vs ++ zs) E0 t tk) ρ (res x) := fun σ B H l Q q => ha σ B H l _ fun vs ds B1 H1 pd g1 hs => hb σ B1 H1 (l.gr g1) _ fun zs es B2 H2 pe g2 hz => by
  subst pd pe
  refine ⟨by rw [hs.length, hn], by rw [hz.length, hm], x, B2, px, g2.i, ?_, fun v d B3 H3 rd g3 hv => q v d B3 H3 rd ((g1.trans g2).trans g3.any) hv⟩
  rw [e]
  exact (hs.mono g2.b).append hz
theorem q_drop {B0 H0 Bk : Hp} {σ : L2.St} {te : TE} {P : Dt → Prop} {tz : TS} {Dn : Ends} (s : Sta D B0 H0 Bk ρ σ B H) (h : EVP D te ρ P) (k : ∀ B' H', Sta D B0 H0 Bk ρ σ B' H' → tz Dn σ H') : tSeq (tDrop te) tz Dn σ H := s_drop (Dn := { Dn with nx := tz Dn }) s h k
end
end K37
/-! K37E: the small defs of newsbooks.lots. -/
namespace K37
open PySem PyProof.Rows L2
open Evl (Ex)
section
variable {P : Program} {w : World} {K : PySem.W.Frag} {mg : PySem.Str → Option Value} {base : Heap}
def isI : Dt → Bool
  | .int _ => true
  | _ => false
def isIB : Dt → Bool
  | .int _ => true
  | .bl _ => true
  | _ => false
def isBD : Dt → Bool
  | .bl _ => true
  | _ => false
def isTD : Dt → Bool
  | .tup _ => true
  | _ => false
def isLD : Dt → Bool
  | .lst _ => true
  | _ => false
theorem kit_int {d : Dt} (h : noObj d = true) : kitB (tyD d) "int" = some (isIB d) := by
  cases d with
  | told C n c => cases h
  | tbl C n c ps => cases h
  | non => exact (by decide +kernel : kitB "NoneType" "int" = some false)
  | bl b => exact (by decide +kernel : kitB "bool" "int" = some true)
  | int b => exact (by decide +kernel : kitB "int" "int" = some true)
  | str b => exact (by decide +kernel : kitB "str" "int" = some false)
  | tup b => exact (by decide +kernel : kitB "tuple" "int" = some false)
  | lst b => exact (by decide +kernel : kitB "list" "int" = some false)
theorem kit_bool {d : Dt} (h : noObj d = true) : kitB (tyD d) "bool" = some (isBD d) := by
  cases d with
  | told C n c => cases h
  | tbl C n c ps => cases h
  | non => exact (by decide +kernel : kitB "NoneType" "bool" = some false)
  | bl b => exact (by decide +kernel : kitB "bool" "bool" = some true)
  | int b => exact (by decide +kernel : kitB "int" "bool" = some false)
  | str b => exact (by decide +kernel : kitB "str" "bool" = some false)
  | tup b => exact (by decide +kernel : kitB "tuple" "bool" = some false)
  | lst b => exact (by decide +kernel : kitB "list" "bool" = some false)
theorem kit_tuple {d : Dt} (h : noObj d = true) : kitB (tyD d) "tuple" = some (isTD d) := by
  cases d with
  | told C n c => cases h
  | tbl C n c ps => cases h
  | non => exact (by decide +kernel : kitB "NoneType" "tuple" = some false)
  | bl b => exact (by decide +kernel : kitB "bool" "tuple" = some false)
  | int b => exact (by decide +kernel : kitB "int" "tuple" = some false)
  | str b => exact (by decide +kernel : kitB "str" "tuple" = some false)
  | tup b => exact (by decide +kernel : kitB "tuple" "tuple" = some true)
  | lst b => exact (by decide +kernel : kitB "list" "tuple" = some false)
theorem kit_list {d : Dt} (h : noObj d = true) : kitB (tyD d) "list" = some (isLD d) := by
  cases d with
  | told C n c => cases h
  | tbl C n c ps => cases h
  | non => exact (by decide +kernel : kitB "NoneType" "list" = some false)
  | bl b => exact (by decide +kernel : kitB "bool" "list" = some false)
  | int b => exact (by decide +kernel : kitB "int" "list" = some false)
  | str b => exact (by decide +kernel : kitB "str" "list" = some false)
  | tup b => exact (by decide +kernel : kitB "tuple" "list" = some false)
  | lst b => exact (by decide +kernel : kitB "list" "list" = some true)
abbrev nm_whole_number : List PySem.Str := [("value" : PySem.Str)]
abbrev ps_whole_number : List PySem.Str := [("value" : PySem.Str)]
theorem sc_whole_number : FnScope nm_whole_number ps_whole_number (defScope st_whole_number) := ⟨rfl, rfl, rfl, by decide +kernel, rfl, by decide +kernel, by decide +kernel⟩
/- slots: 0:value -/
theorem ok_whole_number (T : Tx K mg) : OkF P w K mg base CX0 "whole_number" 1 ps_whole_number (PF (fun d : Dt => noObj d = true) (fun d => [d]) (fun d r => r = .bl (isI d))) := by
  refine Df.ok T.d_whole_number sc_whole_number (fun _ _ _ _ _ _ us hl => match us, hl with | [_], _ => rfl) (pf_len fun _ => rfl) (fun cdv A outer s H vs Q E hr h => ?_)
  obtain ⟨x, B, hx, e, st, k⟩ := pf_open (N := nm_whole_number) h
  refine ⟨_, PSs.nox (pss_one (ps_ret (pe_and (pe_callB (call_isi_k (K := K)) (by rfl) T.b_isinstance boot_isinstance (pa_cons (pv 0) (pa_cons (pe_bltn (v := .ty "int") (by rfl) T.b_int boot_int rfl) pa_nil))) (pe_one (pe_not (pe_callB (call_isi_k (K := K)) (by rfl) T.b_isinstance boot_isinstance (pa_cons (pv 0) (pa_cons (pe_bltn (v := .ty "bool") (by rfl) T.b_bool boot_bool rfl) pa_nil)))))))), ?_⟩
  refine s_ret st (EVP.imp (ev_andV (ev_isi ev_var (kit_int hx) hx) (fun _ => ev_notV (ev_isi ev_var (kit_bool hx) hx))) fun d e => ?_) k
  rw [e]
  cases x <;> rfl
def isRow : Dt → Bool
  | .tup _ => true
  | .lst _ => true
  | _ => false
abbrev nm_is_row : List PySem.Str := [("value" : PySem.Str)]
abbrev ps_is_row : List PySem.Str := [("value" : PySem.Str)]
theorem sc_is_row : FnScope nm_is_row ps_is_row (defScope st_is_row) := ⟨rfl, rfl, rfl, by decide +kernel, rfl, by decide +kernel, by decide +kernel⟩
/- slots: 0:value -/
theorem ok_is_row (T : Tx K mg) : OkF P w K mg base CX0 "is_row" 1 ps_is_row (PF (fun d : Dt => noObj d = true) (fun d => [d]) (fun d r => r = .bl (isRow d))) := by
  refine Df.ok T.d_is_row sc_is_row (fun _ _ _ _ _ _ us hl => match us, hl with | [_], _ => rfl) (pf_len fun _ => rfl) (fun cdv A outer s H vs Q E hr h => ?_)
  obtain ⟨x, B, hx, e, st, k⟩ := pf_open (N := nm_is_row) h
  refine ⟨_, PSs.nox (pss_one (ps_ret (pe_callB (call_isiT_k (K := K)) (by rfl) T.b_isinstance boot_isinstance (pa_cons (pv 0) (pa_cons (pe_tup (pa_cons (pe_bltn (v := .ty "list") (by rfl) T.b_list boot_list rfl) (pa_cons (pe_bltn (v := .ty "tuple") (by rfl) T.b_tuple boot_tuple rfl) pa_nil))) pa_nil))))), ?_⟩
  refine s_ret st (EVP.imp (ev_isi2 ev_var (kit_list hx) (kit_tuple hx) hx) fun d e => ?_) k
  rw [e]
  cases x <;> rfl
theorem ev_chainI {D : Option Addr} {ρ : List Sl} {ta tb tc : TE} {g h : Int → Int → Bool} {i j k : Int} (ha : EV D ta ρ (.int i)) (hb : EV D tb ρ (.int j)) (hc : EV D tc ρ (.int k)) :
    EV D (tChain (rI0 fun i j => .bl (g i j)) (rI0 fun i j => .bl (h i j)) ta tb tc) ρ (.bl (g i j && h j k)) := fun σ B H l Q q => ha σ B H l _ fun v x B1 H1 px g1 h1 => hb σ B1 H1 (l.gr g1) _ fun w y B2 H2 py g2 h2 => by
  subst px py
  refine ⟨i, j, h1, h2, g i j, rfl, ?_⟩
  cases e : g i j with
  | false => exact q (.bl false) (.bl false) B2 H2 (by rw [e]; rfl) (g1.trans g2) rfl
  | true =>
    refine hc σ B2 H2 ((l.gr g1).gr g2) _ fun u z B3 H3 pz g3 h3 => ?_
    subst pz
    exact ⟨j, k, h2.mono g3.b, h3, q (.bl (h j k)) (.bl (h j k)) B3 H3 (by rw [e]; rfl) ((g1.trans g2).trans g3) rfl⟩
abbrev nm_check_worlds : List PySem.Str := [("worlds" : PySem.Str)]
abbrev ps_check_worlds : List PySem.Str := [("worlds" : PySem.Str)]
theorem sc_check_worlds : FnScope nm_check_worlds ps_check_worlds (defScope st_check_worlds) := ⟨rfl, rfl, rfl, by decide +kernel, rfl, by decide +kernel, by decide +kernel⟩
/- slots: 0:worlds -/
theorem ok_check_worlds (T : Tx K mg) : OkF P w K mg base CX0 "check_worlds" 3 ps_check_worlds (PF (fun n : Int => 1 ≤ n ∧ n ≤ 12) (fun n => [.int n]) (fun _ r => r = .non)) := by
  refine Df.ok T.d_check_worlds sc_check_worlds (fun _ _ _ _ _ _ us hl => match us, hl with | [_], _ => rfl) (pf_len fun _ => rfl) (fun cdv A outer s H vs Q E hr h => ?_)
  obtain ⟨n, B, hx, e, st, k⟩ := pf_open (N := nm_check_worlds) h
  refine ⟨_, PSs.nox (pss_one (ps_if (PW.pt (pw_or (pt_not (pt_val (pe_callO (ok_whole_number T) (hr.mono (by decide)) (pa_cons (pv 0) pa_nil)))) (pw_or (pt_cmpR op_lt (pv 0) pe_int (nomark _)) (pw_or1 (pt_cmpR op_gt (pv 0) pe_int (nomark _)))))) (pss_one ps_never) pss_nil)), ?_⟩
  refine s_if (b := false) st (et_to (et_or (et_not (et_B (ev_call (.int n) rfl (ea_one ev_var)))) fun _ => et_or (et_test (ev_lt ev_var ev_int)) fun _ => et_test (ev_gt ev_var ev_int)) ?_) (fun z => nomatch z) fun _ B' H' st' => k _ _ B' H' rfl st'.gr rfl
  have h1 : decide (n < 1) = false := decide_eq_false (by omega)
  have h2 : decide ((12 : Int) < n) = false := decide_eq_false (by omega)
  rw [h1, h2]
  rfl
def isW (n : Int) : Dt → Bool
  | .int i => decide (0 ≤ i) && decide (i < n)
  | _ => false
abbrev nm_is_world : List PySem.Str := [("value" : PySem.Str), ("worlds" : PySem.Str)]
abbrev ps_is_world : List PySem.Str := [("value" : PySem.Str), ("worlds" : PySem.Str)]
theorem sc_is_world : FnScope nm_is_world ps_is_world (defScope st_is_world) := ⟨rfl, rfl, rfl, by decide +kernel, rfl, by decide +kernel, by decide +kernel⟩
/- slots: 0:value 1:worlds -/
theorem ok_is_world (T : Tx K mg) : OkF P w K mg base CX0 "is_world" 2 ps_is_world (PF (fun p : Dt × Int => noObj p.1 = true) (fun p => [p.1, .int p.2]) (fun p r => r = .bl (isW p.2 p.1))) := by
  refine Df.ok T.d_is_world sc_is_world (fun _ _ _ _ _ _ us hl => match us, hl with | [_, _], _ => rfl) (pf_len fun _ => rfl) (fun cdv A outer s H vs Q E hr h => ?_)
  obtain ⟨⟨d, n⟩, B, hx, e, st, k⟩ := pf_open (N := nm_is_world) h
  refine ⟨_, PSs.nox (pss_one (ps_ret (pe_and (pe_callO (ok_whole_number T) (hr.mono (by decide)) (pa_cons (pv 0) pa_nil)) (pe_one (pe_chain op_le op_lt pe_int (pv 0) (pv 1)))))), ?_⟩
  cases d with
  | int i => exact s_ret st (EV.to (ev_andV (ev_call (.int i) rfl (ea_one ev_var)) fun _ => ev_chainI ev_int ev_var ev_var) (y := .bl (isW n (.int i))) rfl) k
  | told C m c => cases hx
  | tbl C m c ps => cases hx
  | non => exact s_ret st (ev_andV (b := false) (ev_call .non rfl (ea_one ev_var)) fun z => nomatch z) k
  | bl b => exact s_ret st (ev_andV (b := false) (ev_call (.bl b) rfl (ea_one ev_var)) fun z => nomatch z) k
  | str b => exact s_ret st (ev_andV (b := false) (ev_call (.str b) rfl (ea_one ev_var)) fun z => nomatch z) k
  | tup b => exact s_ret st (ev_andV (b := false) (ev_call (.tup b) rfl (ea_one ev_var)) fun z => nomatch z) k
  | lst b => exact s_ret st (ev_andV (b := false) (ev_call (.lst b) rfl (ea_one ev_var)) fun z => nomatch z) k
/-- the first place that is no world or stood before -/
def strange (n : Int) : List Int → Nat → List Dt → Option Nat
  | _, _, [] => none
  | seen, k, .int i :: ds => if (decide (0 ≤ i) && decide (i < n)) && !decide (i ∈ seen) then strange n (seen ++ [i]) (k + 1) ds else some k
  | _, k, _ :: _ => some k
def optI : Option Nat → Dt
  | none => .non
  | some k => .int (k : Nat)
theorem drop_get {α : Type} {l : List α} {i : Nat} {a : α} (h : l[i]? = some a) : l.drop i = a :: l.drop (i + 1) := by
  have hl := (List.getElem?_eq_some_iff.mp h)
  obtain ⟨h1, h2⟩ := hl
  rw [← h2]
  exact List.drop_eq_getElem_cons h1
abbrev nm_first_stranger : List PySem.Str := [("row" : PySem.Str), ("worlds" : PySem.Str), ("seen" : PySem.Str), ("place" : PySem.Str), ("value" : PySem.Str)]
abbrev ps_first_stranger : List PySem.Str := [("row" : PySem.Str), ("worlds" : PySem.Str)]
theorem sc_first_stranger : FnScope nm_first_stranger ps_first_stranger (defScope st_first_stranger) := ⟨rfl, rfl, rfl, by decide +kernel, rfl, by decide +kernel, by decide +kernel⟩
/- slots: 0:row 1:worlds 2:seen 3:place 4:value -/
theorem ok_first_stranger (T : Tx K mg) : OkF P w K mg base CX0 "first_stranger" 3 ps_first_stranger
    (PF (fun p : Dt × List Dt × Int => IsSeq p.1 p.2.1 ∧ (∀ d ∈ p.2.1, noObj d = true) ∧ p.2.1.length ≤ 1000) (fun p => [p.1, .int p.2.2]) (fun p r => r = optI (strange p.2.2 [] 0 p.2.1))) := by
  refine Df.ok T.d_first_stranger sc_first_stranger (fun _ _ _ _ _ _ us hl => match us, hl with | [_, _], _ => rfl) (pf_len fun _ => rfl) (fun cdv A outer s H vs Q E hr h => ?_)
  obtain ⟨⟨row, ds, n⟩, B, ⟨hd, hx, hz⟩, e, st, k⟩ := pf_open (N := nm_first_stranger) h
  dsimp only at hd hx hz k st
  refine ⟨_, PSs.nox (pss_cons (ps_set (i := 2) sc_first_stranger.nd rfl (Or.inl rfl) (pe_lst pa_nil))
      (pss_cons (ps_for PassesOwn.never rfl (pi_enum_k (K := K) T.b_enumerate (pa_cons (pv 0) pa_nil)) (pg_tup_k (K := K) (n := 2) rfl (pgs_cons (pg_name (i := 3) sc_first_stranger.nd rfl (Or.inl rfl)) (pgs_cons (pg_name (i := 4) sc_first_stranger.nd rfl (Or.inl rfl)) pgs_nil))) (pss_cons (ps_if (PW.pt (pw_or (pt_not (pt_val (pe_callO (ok_is_world T) (hr.mono (by decide)) (pa_cons (pv 4) (pa_cons (pv 1) pa_nil))))) (pw_or1 (pt_cmpR (op_in_k (K := K)) (pv 4) (pv 2) (by rfl))))) (pss_one (ps_ret (pv 3))) pss_nil)
      (pss_one (ps_expr (pe_bm PySem.F.plainAttrs_list PySem.F.slot_list_append PySem.F.type_list_append mt_append (pv 2) (pa_cons (pv 4) pa_nil))))))
      (pss_one (ps_ret pe_non)))), ?_⟩
  refine q_new st (eo_lst ea_nil) e fun σ' B' H' st1 => ?_
  refine q_for (fun p : Nat × Dt => Dt.tup [.int ((p.1 : Nat) : Int), p.2]) (fun p => [(3, .int ((p.1 : Nat) : Int)), (4, p.2)]) (enumP 0 ds) st1 (ei_to (ei_enumA ev_var hd) (by have := enumD_map (fun d : Dt => d) ds 0; rw [List.map_id'] at this; exact this)) (fun a _ => eg_two)
    (fun i ρ' => ∃ is : List Int, ρ' = [.dat row, .dat (.int n), .own (intsD is), .any, .any] ∧ is.length = i ∧ strange n [] 0 ds = strange n is i (ds.drop i)) ⟨[], rfl, rfl, rfl⟩ ?_ ?_
  · rintro Bj i ⟨j, d⟩ ρ' σ' B2 H2 ha ⟨is, rfl, hi, hs⟩ st2
    rw [enumP_get] at ha
    obtain ⟨d', hd, e2⟩ := Option.map_eq_some_iff.mp ha
    obtain ⟨rfl, rfl⟩ := Prod.mk.inj e2
    rw [Nat.zero_add] at st2
    have hn : noObj d' = true := hx d' (List.mem_of_getElem? hd)
    rw [drop_get hd] at hs
    have hlen : i < ds.length := (List.getElem?_eq_some_iff.mp hd).1
    by_cases hc : isW n d' = true
    · cases d' with
      | int z =>
        have hc' : (decide (0 ≤ z) && decide (z < n)) = true := hc
        refine q_if (b := decide (z ∈ is)) st2 (et_to (et_or (et_not (et_B (ev_call (.int z, n) rfl (ea_cons ev_var (ea_one ev_var))))) fun _ => et_test (ev_inO ev_var rfl)) ?_) (fun hm B3 H3 st3 => ?_) (fun hm B3 H3 st3 => ?_)
        · show (!isW n (.int z) || _) = _
          rw [hc]
          rfl
        · refine s_ret st3 ev_var fun v d B4 H4 p g hv => k v d B4 H4 (p.trans ?_) g hv
          rw [hs]
          show _ = optI (if (decide (0 ≤ z) && decide (z < n)) && !decide (z ∈ is) then _ else some i)
          rw [hm, hc']
          rfl
        · refine s_app st3 rfl (P := fun e => e = .int z) ev_var (by simp [hi]; omega) fun d B4 H4 p st4 => ⟨_, B4, ⟨is ++ [z], rfl, by simp [hi], ?_⟩, ?_⟩
          · rw [hs]
            show (if (decide (0 ≤ z) && decide (z < n)) && !decide (z ∈ is) then _ else some i) = _
            rw [hm, hc']
            rfl
          · subst p
            have q : intsD is ++ [Dt.int z] = intsD (is ++ [z]) := by simp [intsD]
            refine st4.weak ?_
            show Wk [.dat row, .dat (.int n), .own (intsD (is ++ [z])), .any, .any] [.dat row, .dat (.int n), .own (intsD is ++ [Dt.int z]), .dat (.int ((i : Nat) : Int)), .dat (.int z)]
            rw [q]
            exact .same (.same (.same (.any (.any .nil))))
      | _ => cases hc
    · refine q_if (b := true) st2 (et_to (et_or (b := false) (et_not (et_B (ev_call (d', n) hn (ea_cons ev_var (ea_one ev_var))))) fun z => ?_) ?_) (fun _ B3 H3 st3 => ?_) (fun hm => nomatch hm)
      · exfalso
        have z' : (!isW n d') = false := z
        rw [Bool.eq_false_iff.mpr hc] at z'
        cases z'
      · show (!isW n d' || _) = _
        rw [Bool.eq_false_iff.mpr hc]
        rfl
      · refine s_ret st3 ev_var fun v d B4 H4 p g hv => k v d B4 H4 (p.trans ?_) g hv
        rw [hs]
        cases d' with
        | int z =>
          have hc' : (decide (0 ≤ z) && decide (z < n)) = false := Bool.eq_false_iff.mpr hc
          show _ = optI (if (decide (0 ≤ z) && decide (z < n)) && !decide (z ∈ is) then _ else some i)
          rw [hc']
          rfl
        | _ => rfl
  · rintro ρ' σ' B2 H2 ⟨is, rfl, hi, hs⟩ st2
    refine s_ret st2 ev_non fun v d B4 H4 p g hv => k v d B4 H4 (p.trans ?_) g hv
    rw [hs, List.drop_eq_nil_of_le (by rw [enumP_len]; exact Nat.le_refl _)]
    rfl
end
end K37
/-! K37E: the small defs of newsbooks.lots. -/
/-! K37F: lots, cases. -/
namespace K37
open PySem PyProof.Rows L2
open Evl (Ex)
section
variable {P : Program} {w : World} {K : PySem.W.Frag} {mg : PySem.Str → Option Value} {base : Heap}
/-! ### lots -/
/-- a lot of n worlds -/
structure Lot (n : Int) (A : List Int) : Prop where
  asc : A.Pairwise (· < ·)
  bd : ∀ x ∈ A, 0 ≤ x ∧ x < n
theorem Lot.le {n : Int} {A : List Int} (h : Lot n A) : A.Pairwise (· ≤ ·) := h.asc.imp fun q => Int.le_of_lt q
theorem Lot.nodup {n : Int} {A : List Int} (h : Lot n A) : A.Nodup := h.asc.imp fun q e => by omega
theorem Lot.filter {n : Int} {A : List Int} (h : Lot n A) (p : Int → Bool) : Lot n (A.filter p) := ⟨h.asc.sublist List.filter_sublist, fun x hx => h.bd x (List.mem_filter.mp hx).1⟩
theorem nodup_len : ∀ (n : Nat) (A : List Int), A.Nodup → (∀ x ∈ A, 0 ≤ x ∧ x < (n : Int)) → A.length ≤ n
  | 0, A, _, h => by
    cases A with
    | nil => exact Nat.le_refl 0
    | cons a _ =>
      have := h a List.mem_cons_self
      omega
  | n + 1, A, hd, h => by
    have e := List.length_erase (l := A) (a := (n : Int))
    have hd2 : (A.erase (n : Int)).Nodup := hd.erase _
    have ih := nodup_len n (A.erase (n : Int)) hd2 fun x hx => by
      have m := (hd.mem_erase_iff).mp hx
      have b := h x m.2
      have ne := m.1
      omega
    rw [e] at ih
    split at ih <;> omega
theorem Lot.len {n : Int} {A : List Int} (h : Lot n A) : (A.length : Int) ≤ max n 0 := by
  have := nodup_len n.toNat A h.nodup fun x hx => by
    have := h.bd x hx
    omega
  omega
theorem Lot.len12 {n : Int} {A : List Int} (h : Lot n A) (hn : n ≤ 12) : A.length ≤ 12 := by
  have := h.len
  omega
abbrev nm_every : List PySem.Str := [("worlds" : PySem.Str)]
abbrev ps_every : List PySem.Str := [("worlds" : PySem.Str)]
theorem sc_every : FnScope nm_every ps_every (defScope st_every) := ⟨rfl, rfl, rfl, by decide +kernel, rfl, by decide +kernel, by decide +kernel⟩
/- slots: 0:worlds -/
theorem ok_every (T : Tx K mg) : OkF P w K mg base CX0 "every" 4 ps_every (PF (fun n : Nat => 1 ≤ n ∧ n ≤ 12) (fun n => [.int (n : Int)]) (fun n r => r = lotD (upto n))) := by
  refine Df.ok T.d_every sc_every (fun _ _ _ _ _ _ us hl => match us, hl with | [_], _ => rfl) (pf_len fun _ => rfl) (fun cdv A outer s H vs Q E hr h => ?_)
  obtain ⟨n, B, hx, e, st, k⟩ := pf_open (N := nm_every) h
  refine ⟨_, PSs.nox (pss_cons (ps_expr (pe_callO (ok_check_worlds T) (hr.mono (by decide)) (pa_cons (pv 0) pa_nil)))
      (pss_one (ps_ret (pe_tupRg rfl (by rfl) T.b_tuple (prg_1 (by rfl) T.b_range (pv 0)))))), ?_⟩
  refine q_drop st (ev_call (n : Int) (by omega) (ea_one ev_var)) fun B' H' st' => ?_
  exact s_ret st' (ev_tupRg ev_var (by omega)) k
abbrev nm_minus : List PySem.Str := [("one" : PySem.Str), ("other" : PySem.Str), ("x" : PySem.Str)]
abbrev ps_minus : List PySem.Str := [("one" : PySem.Str), ("other" : PySem.Str)]
theorem sc_minus : FnScope nm_minus ps_minus (defScope st_minus) := ⟨rfl, rfl, rfl, by decide +kernel, rfl, by decide +kernel, by decide +kernel⟩
/- slots: 0:one 1:other 2:x -/
theorem ok_minus (T : Tx K mg) : OkF P w K mg base CX0 "minus" 1 ps_minus
    (PF (fun p : List Int × Dt × List Int => p.1.Pairwise (· ≤ ·) ∧ p.1.length ≤ 1000 ∧ IsSeq p.2.1 (intsD p.2.2)) (fun p => [lotD p.1, p.2.1]) (fun p r => r = lotD (p.1.filter fun x => !decide (x ∈ p.2.2)))) := by
  refine Df.ok T.d_minus sc_minus (fun _ _ _ _ _ _ us hl => match us, hl with | [_, _], _ => rfl) (pf_len fun _ => rfl) (fun cdv A outer s H vs Q E hr h => ?_)
  obtain ⟨⟨one, d, other⟩, B, ⟨h1, h2, h3⟩, e, st, k⟩ := pf_open (N := nm_minus) h
  dsimp only at h1 h2 h3 st k
  refine ⟨_, PSs.nox (pss_one (ps_ret (pe_callTy (call_tuple_k (K := K)) (by rfl) T.b_tuple boot_tuple (pa_cons (pe_lc (own := [("x", 2)]) rfl sc_minus.nd (pi_seq_k (K := K) (pe_callB (cr_sorted_k (K := K)) (by rfl) T.b_sorted boot_sorted (pa_cons (pv 0) pa_nil))) (blkOk_by (N := nm_minus) (sc := (defScope st_minus)) (by decide +kernel)) (fun _ _ _ _ _ => (pg_name (i := 2) sc_minus.nd rfl (Or.inl rfl))) (fun _ _ _ _ _ => (pts_one (pt_cmpR (op_notIn_k (K := K)) (pv 2) (pv 1) (by rfl)))) (fun _ _ _ _ _ => (pv 2))) pa_nil)))), ?_⟩
  refine s_ret st (ev_tuple (EO.ev (EO.to (eo_lc (f := Dt.int) (l := fun x => [(2, .int x)]) one (ei_seqA (EO.ev (eo_sortedA ev_var (.inr rfl) (List.Perm.refl _) h1)) (.inl rfl)) (by omega) (fun _ _ => eg_name) (by intro a _ j hj; simpa using hj)
    (fun x => !decide (x ∈ other)) (fun x _ => et_test (ev_op ev_var ev_var (rd_notIn (Or.symm h3)))) Dt.int (fun x _ _ => ev_var)) rfl))) k
abbrev nm_inside : List PySem.Str := [("one" : PySem.Str), ("other" : PySem.Str), ("x" : PySem.Str)]
abbrev ps_inside : List PySem.Str := [("one" : PySem.Str), ("other" : PySem.Str)]
theorem sc_inside : FnScope nm_inside ps_inside (defScope st_inside) := ⟨rfl, rfl, rfl, by decide +kernel, rfl, by decide +kernel, by decide +kernel⟩
/- slots: 0:one 1:other 2:x -/
theorem ok_inside (T : Tx K mg) : OkF P w K mg base CX0 "inside" 1 ps_inside
    (PF (fun p : List Int × List Int => p.1.length ≤ 1000) (fun p => [lotD p.1, lotD p.2]) (fun p r => r = .bl (p.1.all fun x => decide (x ∈ p.2)))) := by
  refine Df.ok T.d_inside sc_inside (fun _ _ _ _ _ _ us hl => match us, hl with | [_, _], _ => rfl) (pf_len fun _ => rfl) (fun cdv A outer s H vs Q E hr h => ?_)
  obtain ⟨⟨one, other⟩, B, h1, e, st, k⟩ := pf_open (N := nm_inside) h
  dsimp only at h1 st k
  refine ⟨_, PSs.nox (pss_one (ps_ret (pe_callB (cr_all_k (K := K) rfl) (by rfl) T.b_all boot_all (pa_cons (pe_lc (own := [("x", 2)]) rfl sc_inside.nd (pi_seq_k (K := K) (pv 0)) (blkOk_by (N := nm_inside) (sc := (defScope st_inside)) (by decide +kernel)) (fun _ _ _ _ _ => (pg_name (i := 2) sc_inside.nd rfl (Or.inl rfl))) (fun _ _ _ _ _ => pts_nil) (fun _ _ _ _ _ => (pe_cmpR (op_in_k (K := K)) (pv 2) (pv 1) (by rfl)))) pa_nil)))), ?_⟩
  refine s_ret st (EV.to (ev_all (bs := one.map fun x => decide (x ∈ other)) (EO.ev (EO.to (eo_lcm (f := Dt.int) (l := fun x => [(2, .int x)]) one (ei_seqA ev_var (.inr rfl)) (by omega) (fun _ _ => eg_name) (by intro a _ j hj; simpa using hj)
    (fun x => Dt.bl (decide (x ∈ other))) (fun x _ => ev_in ev_var ev_var)) (by simp [boolsD])))) (by simp [List.all_map]))  k
theorem strange_none (n : Int) : ∀ (ns seen : List Int) (k : Nat), ns.Nodup → (∀ x ∈ ns, 0 ≤ x ∧ x < n) → (∀ x ∈ ns, x ∉ seen) → strange n seen k (intsD ns) = none
  | [], _, _, _, _, _ => rfl
  | x :: ns, seen, k, hd, hb, hs => by
    show (if (decide (0 ≤ x) && decide (x < n)) && !decide (x ∈ seen) then strange n (seen ++ [x]) (k + 1) (intsD ns) else some k) = none
    have b := hb x List.mem_cons_self
    rw [decide_eq_true b.1, decide_eq_true b.2, decide_eq_false (hs x List.mem_cons_self)]
    show strange n (seen ++ [x]) (k + 1) (intsD ns) = none
    have hd' := List.nodup_cons.mp hd
    refine strange_none n ns _ _ hd'.2 (fun y hy => hb y (List.mem_cons_of_mem _ hy)) fun y hy h => ?_
    rcases List.mem_append.mp h with h | h
    · exact hs y (List.mem_cons_of_mem _ hy) h
    · have e : y = x := by simpa using h
      subst e
      exact hd'.1 hy
/-- what lot_of is handed here: worlds, each once, some -/
structure LotIn (n : Int) (d : Dt) (ns A : List Int) : Prop where
  seq : IsSeq d (intsD ns)
  perm : ns.Perm A
  lot : Lot n A
  ne : A ≠ []
abbrev nm_lot_of : List PySem.Str := [("lot" : PySem.Str), ("worlds" : PySem.Str), ("empty" : PySem.Str), ("place" : PySem.Str)]
abbrev ps_lot_of : List PySem.Str := [("lot" : PySem.Str), ("worlds" : PySem.Str), ("empty" : PySem.Str)]
theorem sc_lot_of : FnScope nm_lot_of ps_lot_of (defScope st_lot_of) := ⟨rfl, rfl, rfl, by decide +kernel, rfl, by decide +kernel, by decide +kernel⟩
/- slots: 0:lot 1:worlds 2:empty 3:place -/
theorem ok_lot_of (T : Tx K mg) : OkK P w K mg base CX0 "lot_of" 4 ps_lot_of 2 ["empty"]
    (PF (fun p : Dt × List Int × List Int × Int => LotIn p.2.2.2 p.1 p.2.1 p.2.2.1 ∧ 1 ≤ p.2.2.2 ∧ p.2.2.2 ≤ 12) (fun p => [p.1, .int p.2.2.2, .bl false]) (fun p r => r = lotD p.2.2.1)) := by
  refine DfK.ok T.d_lot_of sc_lot_of (fun kV doc pm an cdv ct s us ws h1 h2 => match us, ws, h1, h2 with | [_, _], [_], _, _ => .of_eq rfl) (pf_len fun _ => rfl) (fun cdv A outer s H vs Q E hr h => ?_)
  obtain ⟨⟨d, ns, A', n⟩, B, ⟨hl, hn1, hn2⟩, e, st, k⟩ := pf_open (N := nm_lot_of) h
  dsimp only at hl hn1 hn2 k st
  have nd : ns.Nodup := hl.perm.nodup_iff.mpr hl.lot.nodup
  have bd : ∀ x ∈ ns, 0 ≤ x ∧ x < n := fun x hx => hl.lot.bd x (hl.perm.mem_iff.mp hx)
  have hlen : ns.length ≤ 12 := by
    rw [hl.perm.length_eq]
    exact hl.lot.len12 hn2
  have hne : ns ≠ [] := fun z => hl.ne (by rw [z] at hl; exact List.nil_perm.mp hl.perm)
  refine ⟨_, PSs.nox (pss_cons (ps_expr (pe_callO (ok_check_worlds T) (hr.mono (by decide)) (pa_cons (pv 1) pa_nil)))
      (pss_cons (ps_if (pt_not (pt_val (pe_callO (ok_is_row T) (hr.mono (by decide)) (pa_cons (pv 0) pa_nil)))) (pss_one ps_never) pss_nil)
      (pss_cons (ps_set (i := 3) sc_lot_of.nd rfl (Or.inl rfl) (pe_callO (ok_first_stranger T) (hr.mono (by decide)) (pa_cons (pv 0) (pa_cons (pv 1) pa_nil))))
      (pss_cons (ps_if (pt_cmp (pc_notN (pv 3))) (pss_one ps_never) pss_nil)
      (pss_cons (ps_if (PW.pt (pw_and (pt_not (pt_truth_k (K := K) (pv 0) (by intro _; rfl))) (pw_and1 (pt_not (pt_val (pv 2)))))) (pss_one ps_never) pss_nil)
      (pss_one (ps_ret (pe_callTy (call_tuple_k (K := K)) (by rfl) T.b_tuple boot_tuple (pa_cons (pe_callB (cr_sorted_k (K := K)) (by rfl) T.b_sorted boot_sorted (pa_cons (pv 0) pa_nil)) pa_nil))))))))), ?_⟩
  refine q_drop st (ev_call n ⟨hn1, hn2⟩ (ea_one ev_var)) fun B1 H1 st1 => ?_
  refine q_noF st1 (et_not (et_B (ev_call d hl.seq.row (ea_one ev_var)))) (by rcases hl.seq with z | z <;> rw [z] <;> rfl) fun B2 H2 st2 => ?_
  refine q_setE st2 (d := .non) (EVP.imp (ev_call (d, intsD ns, n) ⟨hl.seq, fun x hx => ?_, by simp; omega⟩ (ea_cons ev_var (ea_one ev_var))) fun x e => e.trans (by rw [strange_none n ns [] 0 nd bd (by simp)]; rfl)) fun σ3 B3 H3 st3 => ?_
  · obtain ⟨i, _, rfl⟩ := List.mem_map.mp hx
    rfl
  refine q_noF st3 (et_B (ev_notN ev_var)) rfl fun B4 H4 st4 => ?_
  refine q_noF st4 (et_and (et_not (et_truS ev_var hl.seq)) fun _ => et_not (et_B ev_var)) ?_ fun B5 H5 st5 => ?_
  · cases ns with
    | nil => exact absurd rfl hne
    | cons _ _ => rfl
  exact s_ret st5 (ev_tuple (EO.ev (eo_sortedA ev_var hl.seq hl.perm hl.lot.le))) k
end
end K37
/-! K37G: objects, newsbooks.cases -/
namespace K37
open PySem PyProof.Rows L2
open Evl (Ex)
/-! ### slices -/
theorem cutD_from {ds : List Dt} {i : Nat} (h : i ≤ ds.length) : cutD ds (some (i : Int)) none = ds.drop i := by
  unfold cutD
  rw [HT.sIx_none, HT.sIx_nat, Nat.min_eq_left h]
  exact List.take_of_length_le (by rw [List.length_drop]; exact Nat.le_refl _)
theorem cutD_to {ds : List Dt} {i : Nat} (h : i ≤ ds.length) : cutD ds none (some (i : Int)) = ds.take i := by
  unfold cutD
  rw [HT.sIx_none, HT.sIx_nat, Nat.min_eq_left h]
  rfl
section
variable {D : Option Addr} {ρ : List Sl} {ta tb te : TE} {ds es : List Dt} {d : Dt} {K : PySem.W.Frag}
end
/-! ### an object that is being made -/
/-- the heap without the object at a -/
def del (H : Hp) (a : Addr) : Hp := fun b => if b = a then none else H b
theorem del_self {H : Hp} {a : Addr} : del H a a = none := if_pos rfl
theorem del_ne {H : Hp} {a b : Addr} (h : b ≠ a) : del H a b = H b := if_neg h
theorem gr_del {B H B2 H2 : Hp} {a : Addr} (g : Gr none B H B2 H2) : Gr none B (del H a) B2 H2 where
  b := g.b
  i := g.i
  k := fun b o d e z => by
    by_cases q : b = a
    · rw [q, del_self] at e
      cases e
    · rw [del_ne q] at e
      exact g.k b o d e z
  d := fun _ e => nomatch e
/-- a promise of an __init__: from data args x with pre x, fields that do post x -/
def PO {α : Type} (C : Addr) (pre : α → Prop) (args : α → List Dt) (post : α → List (PySem.Str × V) → Hp → Prop) : Sp := fun vs H Q _ =>
  ∃ (x : α) (B : Hp) (a dx : Addr) (ws : List V), pre x ∧ Ex B H ∧ vs = .ref a :: ws ∧ B a = none ∧ H a = some (.ins C dx []) ∧ HasL (args x) ws B ∧
    ∀ B2 H2 fs, Gr none B (del H a) B2 H2 → B2 a = none → H2 a = some (.ins C dx fs) → post x fs B2 → Q .non H2
theorem po_len {α : Type} {pre : α → Prop} {args : α → List Dt} {post : α → List (PySem.Str × V) → Hp → Prop} {n : Nat} {C : Addr} (h : ∀ x, (args x).length = n) : ∀ vs H Q E, PO C pre args post vs H Q E → vs.length = n + 1 := fun vs H Q E ⟨x, B, a, dx, ws, _, _, e, _, _, l, _⟩ => by
  rw [e, List.length_cons, l.length, h]
/-- the maker's side -/
theorem evp_make {α : Type} {D : Option Addr} {ρ : List Sl} {ta : TA} {C : Addr} {E : XK} {pre : α → Prop} {args : α → List Dt} {post : α → List (PySem.Str × V) → Hp → Prop} {P : Dt → Prop} (x : α) (px : pre x) (h : EA D ta ρ (args x))
    (hp : ∀ B a dx fs, B a = some (.ins C dx fs) → ∀ B', Ex B' B → post x fs B' → ∃ d, P d ∧ Has d (.ref a) B) : EVP D (tMake C (PO C pre args post) [] E ta) ρ P := fun σ B H r Q q => h σ B H r _ fun vs ds B1 H1 pd g1 hs => by
  subst pd
  intro a dx ha hdx ne
  show PO C pre args post (.ref a :: (vs ++ [])) _ _ E
  rw [List.append_nil]
  have z := ex_none g1.i ha
  have ed : del (upd (upd H1 dx (.own a)) a (.ins C dx [])) a = upd H1 dx (.own a) := by
    funext b
    by_cases q : b = a
    · rw [q, del_self, upd_ne ne.symm, ha]
    · rw [del_ne q, upd_ne q]
  have g2 : Gr D B1 H1 B1 (upd H1 dx (.own a)) := Gr.newO g1.i hdx
  refine ⟨x, B1, a, dx, vs, px, (g2.i.trans (Ex.new (by rw [upd_ne ne.symm, ha]))), rfl, z, upd_same, hs, fun B2 H2 fs g3 z2 h2 po => ⟨rfl, ?_⟩⟩
  rw [ed] at g3
  have g4 := g2.trans g3.any
  have g5 := g4.know ha z2 h2
  obtain ⟨d, pd, hd⟩ := hp (upd B2 a (.ins C dx fs)) a dx fs upd_same B2 (Ex.new z2) po
  exact q _ d _ H2 pd (g1.trans g5) hd
def isObjS : Sl → Bool
  | .obj _ _ => true
  | _ => false
theorem nob_of {ρ : List Sl} {a : Addr} (h : ρ.any isObjS = false) (i : Nat) (b : Addr) (u : Hp → HO → Prop) (e : ρ[i]? = some (.obj b u)) : b ≠ a := by
  have m := List.mem_of_getElem? e
  have z := (List.any_eq_false.mp h) _ m
  exact absurd rfl z
/-- the state between two fields -/
structure Fst (a C dx : Addr) (fs : List (PySem.Str × V)) (B0 H0 : Hp) (ρ : List Sl) (σ : L2.St) (B H : Hp) : Prop where
  gr : Gr none B0 (del H0 a) B H
  rl : Rl none ρ σ B H
  bx : B a = none
  hx : H a = some (.ins C dx fs)
  nob : ∀ (i : Nat) b u, ρ[i]? = some (.obj b u) → b ≠ a
theorem Fst.ofSta {a C dx : Addr} {B0 H0 Bk B H : Hp} {ρ : List Sl} {σ : L2.St} (s : Sta none B0 H0 Bk ρ σ B H) (z : B0 a = none) (h : H0 a = some (.ins C dx [])) (nob : ∀ (i : Nat) b u, ρ[i]? = some (.obj b u) → b ≠ a) : Fst a C dx [] B0 H0 ρ σ B H :=
  ⟨gr_del s.gr, s.rl, (s.gr.k a _ (fun e => nomatch e) h z).1, (s.gr.k a _ (fun e => nomatch e) h z).2, nob⟩
theorem rl_upd {ρ : List Sl} {σ : L2.St} {B H : Hp} {a C dx : Addr} {fs : List (PySem.Str × V)} {o : HO} (nob : ∀ (i : Nat) b u, ρ[i]? = some (.obj b u) → b ≠ a) (r : Rl none ρ σ B H) (z : B a = none) (h : H a = some (.ins C dx fs)) : Rl none ρ σ B (upd H a o) := by
  refine ⟨r.ex.mut z, r.len, fun i => ?_, fun _ e => nomatch e⟩
  have q := r.at_ i
  cases e : ρ[i]? with
  | none => trivial
  | some sl =>
    rw [e] at q
    cases sl with
    | own ds =>
      obtain ⟨b, xs, e1, z1, h1, l1, n1⟩ := q
      refine ⟨b, xs, e1, z1, ?_, l1, n1⟩
      rw [upd_ne (fun e' => by rw [e', h] at h1; cases h1)]
      exact h1
    | any => trivial
    | dat d => exact q
    | drw => exact q
    | val v => exact q
    | sq b φ => exact q
    | obj b φ =>
      obtain ⟨r1, r2, ⟨u, r3, r4, r6⟩, r7, r5⟩ := q
      refine ⟨r1, r2, ⟨u, ?_, r4, r6⟩, r7, r5⟩
      by_cases e' : b = a
      · exact absurd e' (nob i b φ e)
      · rw [upd_ne e']
        exact r3
theorem f_fld {a C dx : Addr} {fs : List (PySem.Str × V)} {B0 H0 B H : Hp} {ρ : List Sl} {σ : L2.St} {K : PySem.W.Frag} {te : TE} {f : PySem.Str} {i : Nat} {P : Dt → Prop} {Dn : Ends} (s : Fst a C dx fs B0 H0 ρ σ B H) (hi : ρ[i]? = some (.val (.ref a))) (h : EVP none te ρ P)
    (hc : Cls K C) (hn : NoAttr K C f) (hl : fs.length < 1000) (k : ∀ v d B' H', P d → Has d v B' → Ex B B' → Fst a C dx (putF f v fs) B0 H0 ρ σ B' H' → Dn.nx σ H') : sFld K (tVar i) te f Dn σ H :=
  h σ B H s.rl _ fun v d B1 H1 pd g1 hv => by
    have kk := g1.k a _ (fun e => nomatch e) s.hx s.bx
    refine ⟨.ref a, s.rl.val hi, a, C, dx, fs, rfl, kk.2, hc, hn, hl, k v d B1 _ pd hv g1.b ⟨?_, rl_upd s.nob (s.rl.gr g1) kk.1 kk.2, kk.1, upd_same, s.nob⟩⟩
    exact (s.gr.trans g1).mut del_self kk.1
theorem q_seq {a b tz : TS} {Dn : Ends} {σ : L2.St} {H : Hp} (h : tSeq a (tSeq b tz) Dn σ H) : tSeq (tSeq a b) tz Dn σ H := h
theorem qf_fld {a C dx : Addr} {fs : List (PySem.Str × V)} {B0 H0 B H : Hp} {ρ : List Sl} {σ : L2.St} {K : PySem.W.Frag} {te : TE} {f : PySem.Str} {i : Nat} {P : Dt → Prop} {tz : TS} {Dn : Ends} (s : Fst a C dx fs B0 H0 ρ σ B H) (hi : ρ[i]? = some (.val (.ref a))) (h : EVP none te ρ P)
    (hc : Cls K C) (hn : NoAttr K C f) (hl : fs.length < 1000) (k : ∀ v d B' H', P d → Has d v B' → Ex B B' → Fst a C dx (putF f v fs) B0 H0 ρ σ B' H' → tz Dn σ H') : tSeq (sFld K (tVar i) te f) tz Dn σ H := f_fld (Dn := { Dn with nx := tz Dn }) s hi h hc hn hl k
theorem po_open {α : Type} {pre : α → Prop} {args : α → List Dt} {post : α → List (PySem.Str × V) → Hp → Prop} {vs : List V} {H : Hp} {Q : VK} {E : XK} {N : List PySem.Str} {C : Addr} (h : PO C pre args post vs H Q E) :
    ∃ (x : α) (B : Hp) (a dx : Addr), pre x ∧ Ex B H ∧ B a = none ∧ H a = some (.ins C dx []) ∧ Sta none B H B (Sl.val (.ref a) :: ((args x).map Sl.dat ++ List.replicate (N.length - 1 - (args x).length) Sl.any)) (L2.start N vs) B H ∧
      ∀ B2 H2 fs, Gr none B (del H a) B2 H2 → B2 a = none → H2 a = some (.ins C dx fs) → post x fs B2 → Q .non H2 := by
  obtain ⟨x, B, a, dx, ws, px, e, rfl, z, hx, hl, k⟩ := h
  refine ⟨x, B, a, dx, px, e, z, hx, ?_, k⟩
  have r := rl_dats (D := none) e (fun _ z => nomatch z) hl (N.length - 1 - (args x).length)
  unfold L2.start
  rw [List.map_cons, List.length_cons, hl.length, show N.length - ((args x).length + 1) = N.length - 1 - (args x).length by omega]
  refine Sta.start e ⟨e, by simpa using r.len, fun i => ?_, fun _ e => nomatch e⟩ fun i ds h => ?_
  · cases i with
    | zero => exact rfl
    | succ i => exact r.at_ i
  · cases i with
    | zero => cases h
    | succ i => exact no_own i ds h
/-! ### cases -/
def caseD (c : Case) : Dt := .tup [lotD c.1, lotD c.2]
abbrev casesT (cs : List Case) : Dt := .tup (cs.map caseD)
structure GoodC (n : Int) (c : Case) : Prop where
  l : Lot n c.1
  a : Lot n c.2
  ne : c.2 ≠ []
  sub : ∀ x ∈ c.2, x ∈ c.1
theorem GoodC.ne1 {n : Int} {c : Case} (h : GoodC n c) : c.1 ≠ [] := fun e => by
  cases q : c.2 with
  | nil => exact h.ne q
  | cons x _ =>
    have := h.sub x (by rw [q]; exact List.mem_cons_self)
    rw [e] at this
    cases this
/-- what a case may be handed as -/
def EntD (n : Int) (e : Dt) (c : Case) : Prop := ∃ d1 d2 ns ms, IsSeq e [d1, d2] ∧ LotIn n d1 ns c.1 ∧ LotIn n d2 ms c.2
theorem LotIn.self {n : Int} {A : List Int} (h : Lot n A) (ne : A ≠ []) : LotIn n (lotD A) A A := ⟨.inr rfl, .refl _, h, ne⟩
theorem GoodC.ent {n : Int} {c : Case} (h : GoodC n c) : EntD n (caseD c) c := ⟨_, _, _, _, .inr rfl, .self h.l h.ne1, .self h.a h.ne⟩
section
variable {P : Program} {w : World} {K : PySem.W.Frag} {mg : PySem.Str → Option Value} {base : Heap}
abbrev nm__told_pair : List PySem.Str := [("entry" : PySem.Str), ("worlds" : PySem.Str), ("lot" : PySem.Str), ("answer" : PySem.Str)]
abbrev ps__told_pair : List PySem.Str := [("entry" : PySem.Str), ("worlds" : PySem.Str)]
theorem sc__told_pair : FnScope nm__told_pair ps__told_pair (defScope st__told_pair) := ⟨rfl, rfl, rfl, by decide +kernel, rfl, by decide +kernel, by decide +kernel⟩
/- slots: 0:entry 1:worlds 2:lot 3:answer -/
theorem ok__told_pair (T : Tx K mg) : OkF P w K mg base CX0 "_told_pair" 5 ps__told_pair
    (PF (fun p : Dt × Case × Int => EntD p.2.2 p.1 p.2.1 ∧ (∀ x ∈ p.2.1.2, x ∈ p.2.1.1) ∧ 1 ≤ p.2.2 ∧ p.2.2 ≤ 12) (fun p => [p.1, .int p.2.2]) (fun p r => r = caseD p.2.1)) := by
  refine Df.ok T.d__told_pair sc__told_pair (fun _ _ _ _ _ _ us hl => match us, hl with | [_, _], _ => rfl) (pf_len fun _ => rfl) (fun cdv A outer s H vs Q E hr h => ?_)
  obtain ⟨⟨e0, c, n⟩, B, ⟨he, hsub, hn1, hn2⟩, e, st, k⟩ := pf_open (N := nm__told_pair) h
  dsimp only at he hsub hn1 hn2 k st
  obtain ⟨d1, d2, ns, ms, hs, hl1, hl2⟩ := he
  refine ⟨_, PSs.nox (pss_cons (ps_if (PW.pt (pw_or (pt_not (pt_val (pe_callO (ok_is_row T) (hr.mono (by decide)) (pa_cons (pv 0) pa_nil)))) (pw_or1 (pt_cmpR op_ne (pe_callB (call_len_k (K := K)) (by rfl) T.b_len boot_len (pa_cons (pv 0) pa_nil)) pe_int (nomark _))))) (pss_one (ps_ret pe_non)) pss_nil)
      (pss_cons (ps_try_thru0 (pss_cons (ps_set (i := 2) sc__told_pair.nd rfl (Or.inl rfl) (pe_callKW (ok_lot_of T) (hr.mono (by decide)) (pa_cons (pe_ix (ix_seq_k (K := K)) (pv 0) pe_int (fun _ _ => rfl)) (pa_cons (pv 1) pa_nil)) (pk_cons pe_bl pk_nil)))
      (pss_one (ps_set (i := 3) sc__told_pair.nd rfl (Or.inl rfl) (pe_callKW (ok_lot_of T) (hr.mono (by decide)) (pa_cons (pe_ix (ix_seq_k (K := K)) (pv 0) pe_int (fun _ _ => rfl)) (pa_cons (pv 1) pa_nil)) (pk_cons pe_bl pk_nil))))))
      (pss_one (ps_ret (pe_ifExp (pt_val (pe_callO (ok_inside T) (hr.mono (by decide)) (pa_cons (pv 3) (pa_cons (pv 2) pa_nil)))) (pe_tup (pa_cons (pv 2) (pa_cons (pv 3) pa_nil))) pe_non))))), ?_⟩
  refine q_noF st (et_or (et_not (et_B (ev_call e0 hs.row (ea_one ev_var)))) fun _ => et_test (ev_neI (ev_lenS ev_var hs) ev_int)) (by rcases hs with z | z <;> rw [z] <;> rfl) fun B1 H1 st1 => ?_
  refine q_seq (q_setE st1 (EVP.imp (ev_callN (d1, ns, c.1, n) ⟨hl1, hn1, hn2⟩ (ea_cons (ev_ixA (i := 0) ev_var hs ev_int rfl) (ea_one ev_var)) (ea_one ev_bl) rfl rfl rfl) fun d z => z) fun σ2 B2 H2 st2 => ?_)
  refine q_setE st2 (EVP.imp (ev_callN (d2, ms, c.2, n) ⟨hl2, hn1, hn2⟩ (ea_cons (ev_ixA (i := 1) ev_var hs ev_int rfl) (ea_one ev_var)) (ea_one ev_bl) rfl rfl rfl) fun d z => z) fun σ3 B3 H3 st3 => ?_
  refine s_ret (P := fun d => d = caseD c) st3 (ev_if (b := true) (et_to (et_B (ev_call (c.2, c.1) ?_ (ea_cons ev_var (ea_one ev_var)))) ?_) (fun _ => ev_tup (ea_cons ev_var (ea_one ev_var))) (fun z => nomatch z)) k
  · have := hl2.lot.len12 hn2
    show c.2.length ≤ 1000
    omega
  · rw [List.all_eq_true]
    intro x hx
    exact decide_eq_true (hsub x hx)
abbrev nm__told_steps : List PySem.Str := [("lot" : PySem.Str), ("answer" : PySem.Str), ("least" : PySem.Str), ("steps" : PySem.Str), ("mate" : PySem.Str), ("worse" : PySem.Str)]
abbrev ps__told_steps : List PySem.Str := [("lot" : PySem.Str), ("answer" : PySem.Str)]
theorem sc__told_steps : FnScope nm__told_steps ps__told_steps (defScope st__told_steps) := ⟨rfl, rfl, rfl, by decide +kernel, rfl, by decide +kernel, by decide +kernel⟩
/- slots: 0:lot 1:answer 2:least 3:steps 4:mate 5:worse -/
theorem ok__told_steps (T : Tx K mg) : OkF P w K mg base CX0 "_told_steps" 2 ps__told_steps
    (PF (fun p : Case × Int => GoodC p.2 p.1 ∧ p.2 ≤ 12) (fun p => [lotD p.1.1, lotD p.1.2]) (fun p r => ∃ ds, r = .lst ds ∧ ds.length ≤ 40)) := by
  refine Df.ok T.d__told_steps sc__told_steps (fun _ _ _ _ _ _ us hl => match us, hl with | [_, _], _ => rfl) (pf_len fun _ => rfl) (fun cdv A outer s H vs Q E hr h => ?_)
  obtain ⟨⟨c, n⟩, B, ⟨hg, hn⟩, e, st, k⟩ := pf_open (N := nm__told_steps) h
  dsimp only at hg hn k st
  obtain ⟨A1, A2⟩ := c
  have l1 : A1.length ≤ 12 := hg.l.len12 hn
  have l2 : A2.length ≤ 12 := hg.a.len12 hn
  cases A2 with
  | nil => exact absurd rfl hg.ne
  | cons a0 A2 =>
  refine ⟨_, PSs.nox (pss_cons (ps_set (i := 2) sc__told_steps.nd rfl (Or.inr rfl) (pe_ix (ix_tup_k (K := K)) (pv 1) pe_int (fun _ _ => rfl)))
      (pss_cons (ps_set (i := 3) sc__told_steps.nd rfl (Or.inl rfl) (pe_lst pa_nil))
      (pss_cons (ps_for PassesOwn.never rfl (pi_seq_k (K := K) (pe_slice (sl_tup_k (K := K)) (pv 1) (po_some pe_int) po_none)) (pg_name (i := 4) sc__told_steps.nd rfl (Or.inl rfl)) (pss_cons (ps_expr (pe_bm PySem.F.plainAttrs_list PySem.F.slot_list_append PySem.F.type_list_append mt_append (pv 3) (pa_cons (pe_tup (pa_cons (pv 2) (pa_cons pe_str (pa_cons (pv 4) pa_nil)))) pa_nil)))
      (pss_one (ps_expr (pe_bm PySem.F.plainAttrs_list PySem.F.slot_list_append PySem.F.type_list_append mt_append (pv 3) (pa_cons (pe_tup (pa_cons (pv 4) (pa_cons pe_str (pa_cons (pv 2) pa_nil)))) pa_nil))))))
      (pss_cons (ps_expr (pe_bm PySem.F.plainAttrs_list PySem.F.slot_list_extend PySem.F.type_list_extend mt_extend (pv 3) (pa_cons (pe_lc (own := [("worse", 5)]) rfl sc__told_steps.nd (pi_seq_k (K := K) (pe_callO (ok_minus T) (hr.mono (by decide)) (pa_cons (pv 0) (pa_cons (pv 1) pa_nil)))) (blkOk_by (N := nm__told_steps) (sc := (defScope st__told_steps)) (by decide +kernel)) (fun _ _ _ _ _ => (pg_name (i := 5) sc__told_steps.nd rfl (Or.inl rfl))) (fun _ _ _ _ _ => pts_nil) (fun _ _ _ _ _ => (pe_tup (pa_cons (pv 2) (pa_cons pe_str (pa_cons (pv 5) pa_nil)))))) pa_nil)))
      (pss_one (ps_ret (pv 3))))))), ?_⟩
  refine q_setE st (ev_ixT (i := 0) ev_var ev_int rfl) fun σ1 B1 H1 st1 => ?_
  refine q_new st1 (eo_lst ea_nil) e fun σ2 B2 H2 st2 => ?_
  refine q_for Dt.int (fun x => [(4, .int x)]) A2 st2 (ei_seqA (EV.to (ev_slT ev_var (eo_some ev_int) eo_none) (by rw [show ((1 : Int)) = ((1 : Nat) : Int) from rfl, cutD_from (by simp)]; rfl)) (.inr rfl)) (fun _ _ => eg_name)
    (fun i ρ' => ∃ ds, ρ' = [.dat (lotD A1), .dat (lotD (a0 :: A2)), .dat (.int a0), .own ds, .any, .any] ∧ ds.length = 2 * i) ⟨[], rfl, rfl⟩ ?_ ?_
  · rintro Bj i x ρ' σ' B3 H3 hx ⟨ds, rfl, hl⟩ st3
    have hi : i < A2.length := (List.getElem?_eq_some_iff.mp hx).1
    simp only [List.length_cons] at l2
    refine q_app st3 rfl (ev_tup (ea_cons ev_var (ea_cons ev_str (ea_one ev_var)))) (by omega) fun d B4 H4 p st4 => ?_
    refine s_app st4 rfl (ev_tup (ea_cons ev_var (ea_cons ev_str (ea_one ev_var)))) (by simp; omega) fun d B5 H5 p st5 => ⟨_, B5, ⟨_, rfl, ?_⟩, st5.weak (.same (.same (.same (.same (.any (.same .nil))))))⟩
    simp
    omega
  · rintro ρ' σ' B3 H3 ⟨ds, rfl, hl⟩ st3
    simp only [List.length_cons] at l2
    have wl : (A1.filter fun x => !decide (x ∈ a0 :: A2)).length ≤ 12 := Nat.le_trans (List.length_filter_le _ _) l1
    refine q_ext st3 rfl (EO.ev (eo_lcm Dt.int (fun x => [(5, .int x)]) (A1.filter fun x => !decide (x ∈ a0 :: A2)) (ei_seqA (ev_call (A1, lotD (a0 :: A2), a0 :: A2) ⟨hg.l.le, Nat.le_trans l1 (by decide), .inr rfl⟩ (ea_cons ev_var (ea_one ev_var))) (.inr rfl)) (by omega) (fun _ _ => eg_name) (by intro a _ j hj; simpa using hj)
      (fun x => Dt.tup [.int a0, .str "<", .int x]) (fun x _ => ev_tup (ea_cons ev_var (ea_cons ev_str (ea_one ev_var)))))) (by rw [List.length_map]; omega) fun B4 H4 st4 => ?_
    obtain ⟨B5, st5⟩ := st4.know (i := 3) rfl
    refine s_ret st5 (ev_var (i := 3)) fun v d B6 H6 p g hv => k v d B6 H6 ⟨_, p, ?_⟩ g hv
    rw [List.length_append, List.length_map]
    omega
abbrev TC (K : PySem.W.Frag) : Addr := He.ga K "Told"
abbrev toldD (K : PySem.W.Frag) (n : Int) (cs : List Case) : Dt := .told (TC K) n (casesT cs)
/-- cases as they may be handed in: e a list or tuple of the firsts of xs -/
structure ToldIn (n : Int) (e : Dt) (xs : List (Dt × Case)) : Prop where
  seq : IsSeq e (xs.map (·.1))
  ent : ∀ p ∈ xs, EntD n p.1 p.2 ∧ GoodC n p.2
  few : xs.length ≤ 80
abbrev nm_Told___init__ : List PySem.Str := [("self" : PySem.Str), ("worlds" : PySem.Str), ("cases" : PySem.Str), ("pairs" : PySem.Str), ("place" : PySem.Str), ("entry" : PySem.Str), ("pair" : PySem.Str), ("steps" : PySem.Str), ("numbers" : PySem.Str), ("lot" : PySem.Str), ("answer" : PySem.Str), ("row" : PySem.Str), ("_" : PySem.Str)]
abbrev ps_Told___init__ : List PySem.Str := [("self" : PySem.Str), ("worlds" : PySem.Str), ("cases" : PySem.Str)]
theorem sc_Told___init__ : FnScope nm_Told___init__ ps_Told___init__ (defScope st_Told___init__) := ⟨rfl, rfl, rfl, by decide +kernel, rfl, by decide +kernel, by decide +kernel⟩
/- slots: 0:self 1:worlds 2:cases 3:pairs 4:place 5:entry 6:pair 7:steps 8:numbers 9:lot 10:answer 11:row 12:_ -/
theorem ok_Told___init__ (T : Tx K mg) : OkI P w K mg base CX0 "Told" 6 ps_Told___init__
    (PO (TC K) (fun p : Int × Dt × List (Dt × Case) => 1 ≤ p.1 ∧ p.1 ≤ 12 ∧ ToldIn p.1 p.2.1 p.2.2) (fun p => [.int p.1, p.2.1])
      (fun p fs B => fs.lookup ("worlds" : PySem.Str) = some (.int p.1) ∧ ∃ v, fs.lookup ("cases" : PySem.Str) = some v ∧ Has (casesT (p.2.2.map (·.2))) v B)) := by
  refine ⟨Dm.ok T.d_told_init sc_Told___init__ (fun _ _ _ _ _ _ us hl => match us, hl with | [_, _, _], _ => rfl) (po_len fun _ => rfl) (fun cdv A outer s H vs Q E hr h => ?_), T.m_told, T.g_told⟩
  obtain ⟨⟨n, e0, xs⟩, B, a, dx, ⟨hn1, hn2, hin⟩, e, bz, hx, st, k⟩ := po_open (N := nm_Told___init__) h
  dsimp only at hn1 hn2 hin k st
  have few := hin.few
  refine ⟨_, PSs.nox (pss_cons (ps_expr (pe_callO (ok_check_worlds T) (hr.mono (by decide)) (pa_cons (pv 1) pa_nil)))
      (pss_cons (ps_if (pt_not (pt_val (pe_callO (ok_is_row T) (hr.mono (by decide)) (pa_cons (pv 2) pa_nil)))) (pss_one ps_never) pss_nil)
      (pss_cons (ps_set (i := 3) sc_Told___init__.nd rfl (Or.inl rfl) (pe_lst pa_nil))
      (pss_cons (ps_for PassesOwn.never rfl (pi_enum_k (K := K) T.b_enumerate (pa_cons (pv 2) pa_nil)) (pg_tup_k (K := K) (n := 2) rfl (pgs_cons (pg_name (i := 4) sc_Told___init__.nd rfl (Or.inr rfl)) (pgs_cons (pg_name (i := 5) sc_Told___init__.nd rfl (Or.inl rfl)) pgs_nil))) (pss_cons (ps_set (i := 6) sc_Told___init__.nd rfl (Or.inl rfl) (pe_callO (ok__told_pair T) (hr.mono (by decide)) (pa_cons (pv 5) (pa_cons (pv 1) pa_nil))))
      (pss_cons (ps_if (pt_cmp (pc_isN (pv 6))) (pss_one ps_never) pss_nil)
      (pss_one (ps_expr (pe_bm PySem.F.plainAttrs_list PySem.F.slot_list_append PySem.F.type_list_append mt_append (pv 3) (pa_cons (pv 6) pa_nil)))))))
      (pss_cons (ps_if (pt_cmpR op_gt (pe_callB (call_len_k (K := K)) (by rfl) T.b_len boot_len (pa_cons (pv 3) pa_nil)) (pe_glob (v := .int 80) rfl T.MOST_TOLD_mg.choose_spec ⟨_, rfl⟩) (nomark _)) (pss_one ps_never) pss_nil)
      (pss_cons (ps_set (i := 7) sc_Told___init__.nd rfl (Or.inl rfl) (pe_lst pa_nil))
      (pss_cons (ps_set (i := 8) sc_Told___init__.nd rfl (Or.inl rfl) (pe_lst pa_nil))
      (pss_cons (ps_for PassesOwn.never rfl (pi_enum_k (K := K) T.b_enumerate (pa_cons (pv 3) pa_nil)) (pg_tup_k (K := K) (n := 2) rfl (pgs_cons (pg_name (i := 4) sc_Told___init__.nd rfl (Or.inr rfl)) (pgs_cons (pg_tup_k (K := K) (n := 2) rfl (pgs_cons (pg_name (i := 9) sc_Told___init__.nd rfl (Or.inl rfl)) (pgs_cons (pg_name (i := 10) sc_Told___init__.nd rfl (Or.inl rfl)) pgs_nil))) pgs_nil))) (pss_cons (ps_set (i := 11) sc_Told___init__.nd rfl (Or.inl rfl) (pe_callO (ok__told_steps T) (hr.mono (by decide)) (pa_cons (pv 9) (pa_cons (pv 10) pa_nil))))
      (pss_cons (ps_expr (pe_bm PySem.F.plainAttrs_list PySem.F.slot_list_extend PySem.F.type_list_extend mt_extend (pv 7) (pa_cons (pv 11) pa_nil)))
      (pss_one (ps_expr (pe_bm PySem.F.plainAttrs_list PySem.F.slot_list_extend PySem.F.type_list_extend mt_extend (pv 8) (pa_cons (pe_lc (own := [("_", 12)]) rfl sc_Told___init__.nd (pi_seq_k (K := K) (pv 11)) (blkOk_by (N := nm_Told___init__) (sc := (defScope st_Told___init__)) (by decide +kernel)) (fun _ _ _ _ _ => (pg_name (i := 12) sc_Told___init__.nd rfl (Or.inl rfl))) (fun _ _ _ _ _ => pts_nil) (fun _ _ _ _ _ => (pv 4))) pa_nil)))))))
      (pss_cons (ps_fld (pv 0) (pv 1) rfl)
      (pss_cons (ps_fld (pv 0) (pe_callTy (call_tuple_k (K := K)) (by rfl) T.b_tuple boot_tuple (pa_cons (pv 3) pa_nil)) rfl)
      (pss_cons (ps_fld (pv 0) (pe_callTy (call_tuple_k (K := K)) (by rfl) T.b_tuple boot_tuple (pa_cons (pv 7) pa_nil)) rfl)
      (pss_one (ps_fld (pv 0) (pe_callTy (call_tuple_k (K := K)) (by rfl) T.b_tuple boot_tuple (pa_cons (pv 8) pa_nil)) rfl))))))))))))), ?_⟩
  refine q_drop st (ev_call n ⟨hn1, hn2⟩ (ea_one ev_var)) fun B1 H1 st1 => ?_
  refine q_noF st1 (et_not (et_B (ev_call e0 hin.seq.row (ea_one ev_var)))) (by rcases hin.seq with z | z <;> rw [z] <;> rfl) fun B2 H2 st2 => ?_
  refine q_new st2 (eo_lst ea_nil) e fun σ3 B3 H3 st3 => ?_
  refine q_for (fun p : Nat × (Dt × Case) => Dt.tup [.int ((p.1 : Nat) : Int), p.2.1]) (fun p => [(4, .int ((p.1 : Nat) : Int)), (5, p.2.1)]) (enumP 0 xs) st3 (ei_to (ei_enumA ev_var hin.seq) (enumD_map (fun p : Dt × Case => p.1) xs 0)) (fun a _ => eg_two)
    (fun i ρ' => ρ' = [.val (.ref a), .dat (.int n), .dat e0, .own ((xs.take i).map fun p => caseD p.2), .any, .any, .any, .any, .any, .any, .any, .any, .any]) rfl ?_ ?_
  · rintro Bj i ⟨j, d, c⟩ ρ' σ' B4 H4 ha rfl st4
    rw [enumP_get] at ha
    obtain ⟨⟨d', c'⟩, hd, e2⟩ := Option.map_eq_some_iff.mp ha
    obtain ⟨rfl, e3⟩ := Prod.mk.inj e2
    obtain ⟨rfl, rfl⟩ := Prod.mk.inj e3
    have hm := hin.ent _ (List.mem_of_getElem? hd)
    have hi : i < xs.length := (List.getElem?_eq_some_iff.mp hd).1
    refine q_setE st4 (ev_call (d', c', n) ⟨hm.1, hm.2.sub, hn1, hn2⟩ (ea_cons ev_var (ea_one ev_var))) fun σ5 B5 H5 st5 => ?_
    refine q_noF st5 (et_test (ev_isN ev_var)) rfl fun B6 H6 st6 => ?_
    refine s_app st6 rfl (P := fun e => e = caseD c') ev_var (by rw [List.length_map, List.length_take]; omega) fun d B7 H7 p st7 => ⟨_, B7, rfl, ?_⟩
    subst p
    have q : (xs.take i).map (fun p => caseD p.2) ++ [caseD c'] = (xs.take (i + 1)).map fun p => caseD p.2 := by
      rw [List.take_add_one, hd, List.map_append]
      rfl
    rw [q] at st7
    exact st7.weak (.same (.same (.same (.same (.any (.any (.any (.any (.any (.any (.any (.any (.any .nil)))))))))))))
  · rintro ρ' σ' B4 H4 rfl st4
    rw [enumP_len, List.take_length] at st4
    obtain ⟨B5, st5⟩ := st4.know (i := 3) rfl
    refine q_noF st5 (et_test (ev_gt (ev_lenS (ev_var (i := 3)) (.inl rfl)) ev_int)) (decide_eq_false (by rw [List.length_map]; omega)) fun B6 H6 st6 => ?_
    refine q_new st6 (eo_lst ea_nil) e fun σ7 B7 H7 st7 => ?_
    refine q_new st7 (eo_lst ea_nil) e fun σ8 B8 H8 st8 => ?_
    refine q_for (fun p : Nat × (Dt × Case) => Dt.tup [.int ((p.1 : Nat) : Int), caseD p.2.2]) (fun p => [(4, .int ((p.1 : Nat) : Int)), (9, lotD p.2.2.1), (10, lotD p.2.2.2)]) (enumP 0 xs) st8 (ei_to (ei_enumA (ev_var (i := 3)) (.inl rfl)) (enumD_map (fun p : Dt × Case => caseD p.2) xs 0))
      (fun a _ => eg_tup (egs_cons (l := [(4, Dt.int ((a.1 : Nat) : Int))]) eg_name (egs_cons (l := [(9, lotD a.2.2.1), (10, lotD a.2.2.2)]) (m := []) eg_two egs_nil)) rfl)
      (fun i ρ' => ∃ ds es, ρ' = [.val (.ref a), .dat (.int n), .dat e0, .dat (.lst (xs.map fun p => caseD p.2)), .any, .any, .any, .own ds, .own es, .any, .any, .any, .any] ∧ ds.length ≤ 40 * i ∧ es.length ≤ 40 * i)
      ⟨[], [], rfl, Nat.zero_le _, Nat.zero_le _⟩ ?_ ?_
    · rintro Bj i ⟨j, d, c⟩ ρ' σ' B9 H9 ha ⟨ds, es, rfl, hl1, hl2⟩ st9
      rw [enumP_get] at ha
      obtain ⟨⟨d', c'⟩, hd, e2⟩ := Option.map_eq_some_iff.mp ha
      obtain ⟨rfl, e3⟩ := Prod.mk.inj e2
      obtain ⟨rfl, rfl⟩ := Prod.mk.inj e3
      have hm := hin.ent _ (List.mem_of_getElem? hd)
      have hi : i < xs.length := (List.getElem?_eq_some_iff.mp hd).1
      refine q_set st9 (ev_call (c', n) ⟨hm.2, hn2⟩ (ea_cons ev_var (ea_one ev_var))) fun d σa Ba Ha ⟨rs, ed, hr⟩ sta => ?_
      subst ed
      refine q_ext sta rfl (ev_var (i := 11)) (by omega) fun Bb Hb stb => ?_
      refine s_ext stb rfl (EO.ev (eo_lcm (fun d : Dt => d) (fun d => [(12, d)]) rs (ei_to (ei_seqA (ev_var (i := 11)) (.inl rfl)) (List.map_id' rs).symm) (by omega) (fun _ _ => eg_name) (by intro a _ j hj; simpa using hj) (fun d => Dt.int ((0 + i : Nat) : Int)) (fun d _ => ev_var))) (by rw [List.length_map]; omega) fun Bc Hc stc => ⟨_, Bc, ⟨_, _, rfl, ?_, ?_⟩, stc.weak (.same (.same (.same (.same (.any (.any (.any (.same (.same (.any (.any (.any (.any .nil)))))))))))))⟩
      · rw [List.length_append]; omega
      · rw [List.length_append, List.length_map]; omega
    · rintro ρ' σ' B9 H9 ⟨ds, es, rfl, hl1, hl2⟩ st9
      rw [enumP_len] at hl1 hl2
      obtain ⟨Ba, sta⟩ := st9.know (i := 7) rfl
      obtain ⟨Bb, stb⟩ := sta.know (i := 8) rfl
      have f0 := Fst.ofSta stb bz hx (nob_of rfl)
      refine qf_fld f0 rfl ev_var T.c_told T.n_told_w (by decide) fun v0 d0 Bc Hc p0 hv0 ec f1 => ?_
      subst p0
      refine qf_fld f1 rfl (ev_tuple (ev_var (i := 3))) T.c_told T.n_told_c (Nat.le_of_ble_eq_true rfl) fun v1 d1 Bd Hd p1 hv1 ed f2 => ?_
      subst p1
      refine qf_fld f2 rfl (ev_tuple (ev_var (i := 7))) T.c_told T.n_told_p (Nat.le_of_ble_eq_true rfl) fun v2 d2 Be He p2 hv2 ee f3 => ?_
      refine f_fld f3 rfl (ev_tuple (ev_var (i := 8))) T.c_told T.n_told_s (Nat.le_of_ble_eq_true rfl) fun v3 d3 Bf Hf p3 hv3 ef f4 => ?_
      refine k Bf Hf _ f4.gr f4.bx f4.hx ⟨?_, v1, ?_, ?_⟩
      · rw [show v0 = .int n from hv0]
        rfl
      · rfl
      · have q := (hv1.mono ee).mono ef
        rw [show xs.map (fun p => caseD p.2) = (xs.map (·.2)).map caseD by rw [List.map_map]; rfl] at q
        exact q
theorem ev_makeTold {D : Option Addr} {ρ : List Sl} {ta : TA} {E : XK} {n : Int} {e0 : Dt} {xs : List (Dt × Case)} {post : Int × Dt × List (Dt × Case) → List (PySem.Str × V) → Hp → Prop} (h1 : 1 ≤ n) (h2 : n ≤ 12) (hin : ToldIn n e0 xs) (h : EA D ta ρ [.int n, e0])
    (hpost : post = fun p fs B => fs.lookup ("worlds" : PySem.Str) = some (.int p.1) ∧ ∃ v, fs.lookup ("cases" : PySem.Str) = some v ∧ Has (casesT (p.2.2.map (·.2))) v B := by rfl) :
    EV D (tMake (TC K) (PO (TC K) (fun p : Int × Dt × List (Dt × Case) => 1 ≤ p.1 ∧ p.1 ≤ 12 ∧ ToldIn p.1 p.2.1 p.2.2) (fun p => [.int p.1, p.2.1]) post) [] E ta) ρ (toldD K n (xs.map (·.2))) := by
  subst hpost
  exact evp_make (n, e0, xs) ⟨h1, h2, hin⟩ h fun B a dx fs ha B' e ⟨q1, v, q2, q3⟩ => ⟨_, rfl, a, dx, fs, v, rfl, ha, q1, q2, q3.mono e⟩
abbrev nm_told_family : List PySem.Str := [("family" : PySem.Str), ("worlds" : PySem.Str), ("lots" : PySem.Str), ("place" : PySem.Str), ("entry" : PySem.Str)]
abbrev ps_told_family : List PySem.Str := [("family" : PySem.Str), ("worlds" : PySem.Str)]
theorem sc_told_family : FnScope nm_told_family ps_told_family (defScope st_told_family) := ⟨rfl, rfl, rfl, by decide +kernel, rfl, by decide +kernel, by decide +kernel⟩
/- slots: 0:family 1:worlds 2:lots 3:place 4:entry -/
theorem ok_told_family (T : Tx K mg) : OkF P w K mg base CX0 "told_family" 5 ps_told_family
    (PF (fun p : Int × Dt × List (Dt × List Int × List Int) => 1 ≤ p.1 ∧ p.1 ≤ 12 ∧ IsSeq p.2.1 (p.2.2.map (·.1)) ∧ (∀ q ∈ p.2.2, LotIn p.1 q.1 q.2.1 q.2.2) ∧ p.2.2.length ≤ 80) (fun p => [p.2.1, .int p.1])
      (fun p r => r = .tup (p.2.2.map fun q => lotD q.2.2))) := by
  refine Df.ok T.d_told_family sc_told_family (fun _ _ _ _ _ _ us hl => match us, hl with | [_, _], _ => rfl) (pf_len fun _ => rfl) (fun cdv A outer s H vs Q E hr h => ?_)
  obtain ⟨⟨n, e0, xs⟩, B, ⟨hn1, hn2, hs, hx, few⟩, e, st, k⟩ := pf_open (N := nm_told_family) h
  dsimp only at hn1 hn2 hs hx few k st
  refine ⟨_, PSs.nox (pss_cons (ps_expr (pe_callO (ok_check_worlds T) (hr.mono (by decide)) (pa_cons (pv 1) pa_nil)))
      (pss_cons (ps_if (PW.pt (pw_or (pt_not (pt_val (pe_callO (ok_is_row T) (hr.mono (by decide)) (pa_cons (pv 0) pa_nil)))) (pw_or1 (pt_cmpR op_gt (pe_callB (call_len_k (K := K)) (by rfl) T.b_len boot_len (pa_cons (pv 0) pa_nil)) (pe_glob (v := .int 80) rfl T.MOST_TOLD_mg.choose_spec ⟨_, rfl⟩) (nomark _))))) (pss_one ps_never) pss_nil)
      (pss_cons (ps_set (i := 2) sc_told_family.nd rfl (Or.inl rfl) (pe_lst pa_nil))
      (pss_cons (ps_for PassesOwn.never rfl (pi_enum_k (K := K) T.b_enumerate (pa_cons (pv 0) pa_nil)) (pg_tup_k (K := K) (n := 2) rfl (pgs_cons (pg_name (i := 3) sc_told_family.nd rfl (Or.inl rfl)) (pgs_cons (pg_name (i := 4) sc_told_family.nd rfl (Or.inl rfl)) pgs_nil))) (pss_one (ps_try_thru0 (pss_one (ps_expr (pe_bm PySem.F.plainAttrs_list PySem.F.slot_list_append PySem.F.type_list_append mt_append (pv 2) (pa_cons (pe_callKW (ok_lot_of T) (hr.mono (by decide)) (pa_cons (pv 4) (pa_cons (pv 1) pa_nil)) (pk_cons pe_bl pk_nil)) pa_nil)))))))
      (pss_one (ps_ret (pe_callTy (call_tuple_k (K := K)) (by rfl) T.b_tuple boot_tuple (pa_cons (pv 2) pa_nil)))))))), ?_⟩
  refine q_drop st (ev_call n ⟨hn1, hn2⟩ (ea_one ev_var)) fun B1 H1 st1 => ?_
  refine q_noF st1 (et_or (et_not (et_B (ev_call e0 hs.row (ea_one ev_var)))) fun _ => et_test (ev_gt (ev_lenS (ev_var (i := 0)) hs) ev_int)) ?_ fun B2 H2 st2 => ?_
  · rw [decide_eq_false (by rw [List.length_map]; omega)]
    rcases hs with z | z <;> rw [z] <;> rfl
  refine q_new st2 (eo_lst ea_nil) e fun σ3 B3 H3 st3 => ?_
  refine q_for (fun p : Nat × (Dt × List Int × List Int) => Dt.tup [.int ((p.1 : Nat) : Int), p.2.1]) (fun p => [(3, .int ((p.1 : Nat) : Int)), (4, p.2.1)]) (enumP 0 xs) st3 (ei_to (ei_enumA ev_var hs) (enumD_map (fun p : Dt × List Int × List Int => p.1) xs 0)) (fun a _ => eg_two)
    (fun i ρ' => ρ' = [.dat e0, .dat (.int n), .own ((xs.take i).map fun p => lotD p.2.2), .any, .any]) rfl ?_ ?_
  · rintro Bj i ⟨j, d, c⟩ ρ' σ' B4 H4 ha rfl st4
    rw [enumP_get] at ha
    obtain ⟨⟨d', c'⟩, hd, e2⟩ := Option.map_eq_some_iff.mp ha
    obtain ⟨rfl, e3⟩ := Prod.mk.inj e2
    obtain ⟨rfl, rfl⟩ := Prod.mk.inj e3
    have hm := hx _ (List.mem_of_getElem? hd)
    have hi : i < xs.length := (List.getElem?_eq_some_iff.mp hd).1
    refine s_app st4 rfl (P := fun e => e = lotD c'.2) (EVP.imp (ev_callN (d', c'.1, c'.2, n) ⟨hm, hn1, hn2⟩ (ea_cons ev_var (ea_one ev_var)) (ea_one ev_bl) rfl rfl rfl) fun d z => z) (by rw [List.length_map, List.length_take]; omega) fun d B7 H7 p st7 => ⟨_, B7, rfl, ?_⟩
    subst p
    have q : (xs.take i).map (fun p => lotD p.2.2) ++ [lotD c'.2] = (xs.take (i + 1)).map fun p => lotD p.2.2 := by
      rw [List.take_add_one, hd, List.map_append]
      rfl
    rw [q] at st7
    exact st7.weak (.same (.same (.same (.any (.any .nil)))))
  · rintro ρ' σ' B4 H4 rfl st4
    rw [enumP_len, List.take_length] at st4
    obtain ⟨B5, st5⟩ := st4.know (i := 2) rfl
    exact s_ret st5 (ev_tuple (ev_var (i := 2))) k
end
end K37
/-! K37M: newsbooks.manyorders -/
namespace K37
open PySem PyProof.Rows L2
open Evl (Ex)
section
variable {D : Option Addr} {B0 H0 Bk B H : Hp} {ρ : List Sl} {σ : L2.St} {te ta tb : TE} {tt : TT} {P : Dt → Prop} {tu tw tz : TS} {Dn : Ends} {d : Dt} {ds es : List Dt} {K : PySem.W.Frag}
theorem q_while {α : Type} (Inv : α → List Sl → Prop) (μ : α → Nat) (c : α → Bool) (x0 : α) (s : Sta D B0 H0 Bk ρ σ B H) (h0 : Inv x0 ρ) (ht : ∀ x ρ', Inv x ρ' → ET D tt ρ' (c x))
    (hs : ∀ x ρ' σ' B' H', Inv x ρ' → c x = true → Sta D B0 H0 Bk ρ' σ' B' H' → ∀ N : L2.St → Hp → Prop, (∀ y ρ2 σ2 B2 H2, Inv y ρ2 → μ y < μ x → Sta D B0 H0 Bk ρ2 σ2 B2 H2 → N σ2 H2) → tu { Dn with nx := N, ct := N, bk := tz Dn } σ' H')
    (hd : ∀ x ρ' σ' B' H', Inv x ρ' → c x = false → Sta D B0 H0 Bk ρ' σ' B' H' → tz Dn σ' H') : tSeq (tWhile tt tu) tz Dn σ H := by
  refine ⟨fun m σ H => ∃ x ρ' B', m = μ x ∧ Inv x ρ' ∧ Sta D B0 H0 Bk ρ' σ B' H, ⟨_, x0, ρ, B, rfl, h0, s⟩, ?_⟩
  rintro m σ1 H1 ⟨x, ρ', B1, rfl, hi, st⟩
  refine ht x ρ' hi σ1 B1 H1 st.rl _ fun b B2 H2 pb g => ?_
  subst pb
  have st2 := st.go g
  cases e : c x with
  | true =>
    show ∃ N : L2.St → Hp → Prop, _ ∧ _
    exact ⟨fun σ' H' => ∃ m', m' < μ x ∧ ∃ y ρ2 B2, m' = μ y ∧ Inv y ρ2 ∧ Sta D B0 H0 Bk ρ2 σ' B2 H', fun σ' H' h => h, hs x ρ' σ1 B2 H2 hi e st2 _ fun y ρ2 σ2 B3 H3 iy lt st3 => ⟨_, lt, y, ρ2, B3, rfl, iy, st3⟩⟩
  | false => exact hd x ρ' σ1 B2 H2 hi e st2
/-- an if without else -/
theorem q_ifN {b : Bool} (s : Sta D B0 H0 Bk ρ σ B H) (h : ET D tt ρ b) (h1 : b = true → ∀ B' H', Sta D B0 H0 Bk ρ σ B' H' → tu { Dn with nx := tz Dn } σ H') (h2 : b = false → ∀ B' H', Sta D B0 H0 Bk ρ σ B' H' → tz Dn σ H') : tSeq (tIfS tt tu tNext) tz Dn σ H := q_if s h h1 h2
/-- a, b = .. -/
theorem s_asgG {g : TG} {l : List (Nat × Dt)} (s : Sta D B0 H0 Bk ρ σ B H) (h : EV D te ρ d) (hg : EG g d l) (k : ∀ σ' B' H', Sta D B0 H0 Bk (setR ρ l) σ' B' H' → Dn.nx σ' H') : tAsg te g Dn σ H :=
  h σ B H s.rl _ fun v d' B2 H2 p gr hv => by
    subst p
    exact hg σ B2 H2 v gr.i hv _ fun vs hvs => k _ B2 H2 ((s.go gr).sets hvs)
theorem q_asgG {g : TG} {l : List (Nat × Dt)} (s : Sta D B0 H0 Bk ρ σ B H) (h : EV D te ρ d) (hg : EG g d l) (k : ∀ σ' B' H', Sta D B0 H0 Bk (setR ρ l) σ' B' H' → tz Dn σ' H') : tSeq (tAsg te g) tz Dn σ H := s_asgG (Dn := { Dn with nx := tz Dn }) s h hg k
/-- xs.extend(ys), xs one's own, ys a tuple -/
theorem s_extT {i : Nat} (s : Sta D B0 H0 Bk ρ σ B H) (q : ρ[i]? = some (.own ds)) (h : EV D te ρ (.tup es)) (hz : ds.length + es.length ≤ 100000) (k : ∀ B' H', Sta D B0 H0 Bk (ρ.set i (.own (ds ++ es))) σ B' H' → Dn.nx σ H') :
    tDrop (tBM K "list" (rExtendT K) (tVar i) (tCons te tNil)) Dn σ H := by
  obtain ⟨a, xs, e1, z, hx, hl, nd⟩ := s.rl.own q
  refine ⟨.ref a, e1, Or.inl ⟨rfl, xs, SqL.of hx⟩, h σ B H s.rl _ fun v d B2 H2 p g hv => ?_⟩
  subst p
  obtain ⟨z2, hx2⟩ := g.k a _ nd hx z
  obtain ⟨b, ys, rfl, hb, hm⟩ := hv
  exact ⟨a, b, xs, ys, rfl, rfl, hx2, SqT.of (g.i b _ hb), sz5 (by rw [hl.length, hm.length]; exact hz), k B2 _ ((s.go g).mut q e1 ((hl.mono g.b).append hm))⟩
theorem ev_tupleS (h : EV D ta ρ d) (hs : IsSeq d ds) : EV D (tCB (fun xs H Q => ∃ p ys, xs = [.ref p] ∧ ((SqL K H p ys ∧ ∀ l, H l = none → Q (.ref l) (upd H l (.tup ys))) ∨ (SqT K H p ys ∧ Q (.ref p) H))) (tCons ta tNil)) ρ (.tup ds) := by
  rcases hs with rfl | rfl
  · exact ev_tuple h
  · exact ev_tupleT h
end
/-- the surroundings of a told: its cases are good -/
structure ToldOk (n : Int) (cs : List Case) : Prop where
  n1 : 1 ≤ n
  n2 : n ≤ 12
  good : ∀ c ∈ cs, GoodC n c
  few : cs.length ≤ 80
theorem ToldOk.in_ {n : Int} {cs : List Case} (h : ToldOk n cs) : ToldIn n (casesT cs) (cs.map fun c => (caseD c, c)) := by
  refine ⟨.inr ?_, fun p hp => ?_, by rw [List.length_map]; exact h.few⟩
  · rw [List.map_map]
    rfl
  · obtain ⟨c, hc, rfl⟩ := List.mem_map.mp hp
    exact ⟨(h.good c hc).ent, h.good c hc⟩
/-- an order of all worlds -/
structure Ord (n : Int) (os : List Int) : Prop where
  nd : os.Nodup
  all : ∀ x, x ∈ os ↔ 0 ≤ x ∧ x < n
theorem upto_nodup {n : Nat} : (upto n).Nodup := by
  unfold upto List.Nodup
  rw [List.pairwise_map]
  exact List.nodup_range.imp fun h e => h (by omega)
theorem Ord.len {n : Int} {os : List Int} (h : Ord n os) (hn : 0 ≤ n) : (os.length : Int) = n := by
  have p : os.Perm (upto n.toNat) := (List.perm_ext_iff_of_nodup h.nd upto_nodup).mpr fun x => by
    rw [h.all, mem_upto]
    omega
  rw [p.length_eq, upto_len]
  omega
section
variable {P : Program} {w : World} {K : PySem.W.Frag} {mg : PySem.Str → Option Value} {base : Heap}
abbrev nm__said_order : List PySem.Str := [("order" : PySem.Str), ("worlds" : PySem.Str), ("place" : PySem.Str)]
abbrev ps__said_order : List PySem.Str := [("order" : PySem.Str), ("worlds" : PySem.Str)]
theorem sc__said_order : FnScope nm__said_order ps__said_order (defScope st__said_order) := ⟨rfl, rfl, rfl, by decide +kernel, rfl, by decide +kernel, by decide +kernel⟩
/- slots: 0:order 1:worlds 2:place -/
theorem ok__said_order (T : Tx K mg) : OkF P w K mg base CX0 "_said_order" 4 ps__said_order
    (PF (fun p : Dt × List Int × Int => IsSeq p.1 (intsD p.2.1) ∧ Ord p.2.2 p.2.1 ∧ 1 ≤ p.2.2 ∧ p.2.2 ≤ 12) (fun p => [p.1, .int p.2.2]) (fun p r => r = lotD p.2.1)) := by
  refine Df.ok T.d__said_order sc__said_order (fun _ _ _ _ _ _ us hl => match us, hl with | [_, _], _ => rfl) (pf_len fun _ => rfl) (fun cdv A outer s H vs Q E hr h => ?_)
  obtain ⟨⟨d, os, n⟩, B, ⟨hs, ho, hn1, hn2⟩, e, st, k⟩ := pf_open (N := nm__said_order) h
  dsimp only at hs ho hn1 hn2 k st
  have len := ho.len (by omega)
  refine ⟨_, PSs.nox (pss_cons (ps_if (PW.pt (pw_or (pt_not (pt_val (pe_callO (ok_is_row T) (hr.mono (by decide)) (pa_cons (pv 0) pa_nil)))) (pw_or1 (pt_cmpR op_ne (pe_callB (call_len_k (K := K)) (by rfl) T.b_len boot_len (pa_cons (pv 0) pa_nil)) (pv 1) (nomark _))))) (pss_one ps_never) pss_nil)
      (pss_cons (ps_set (i := 2) sc__said_order.nd rfl (Or.inl rfl) (pe_callO (ok_first_stranger T) (hr.mono (by decide)) (pa_cons (pv 0) (pa_cons (pv 1) pa_nil))))
      (pss_cons (ps_if (pt_cmp (pc_notN (pv 2))) (pss_one ps_never) pss_nil)
      (pss_one (ps_ret (pe_callTy (call_tuple_k (K := K)) (by rfl) T.b_tuple boot_tuple (pa_cons (pv 0) pa_nil))))))), ?_⟩
  refine q_noF st (et_or (et_not (et_B (ev_call d hs.row (ea_one ev_var)))) fun _ => et_test (ev_neI (ev_lenS (ev_var (i := 0)) hs) ev_var)) ?_ fun B2 H2 st2 => ?_
  · rw [decide_eq_true (by rw [List.length_map]; exact len)]
    rcases hs with z | z <;> rw [z] <;> rfl
  refine q_setE st2 (d := .non) (EVP.imp (ev_call (d, intsD os, n) ⟨hs, fun x hx => ?_, by simp; omega⟩ (ea_cons ev_var (ea_one ev_var))) fun x e => e.trans (by rw [strange_none n os [] 0 ho.nd (fun x hx => (ho.all x).mp hx) (by simp)]; rfl)) fun σ3 B3 H3 st3 => ?_
  · obtain ⟨i, _, rfl⟩ := List.mem_map.mp hx
    rfl
  refine q_noF st3 (et_B (ev_notN ev_var)) rfl fun B4 H4 st4 => ?_
  exact s_ret st4 (ev_tupleS ev_var hs) k
abbrev nm_fits_told : List PySem.Str := [("order" : PySem.Str), ("told" : PySem.Str), ("row" : PySem.Str), ("lot" : PySem.Str), ("answer" : PySem.Str), ("firsts" : PySem.Str), ("x" : PySem.Str)]
abbrev ps_fits_told : List PySem.Str := [("order" : PySem.Str), ("told" : PySem.Str)]
theorem sc_fits_told : FnScope nm_fits_told ps_fits_told (defScope st_fits_told) := ⟨rfl, rfl, rfl, by decide +kernel, rfl, by decide +kernel, by decide +kernel⟩
/- slots: 0:order 1:told 2:row 3:lot 4:answer 5:firsts 6:x -/
theorem firstOf_filter {os A : List Int} (h : os.filter (fun x => decide (x ∈ A)) ≠ []) : (intsD (os.filter fun x => decide (x ∈ A)))[0]? = some (.int (firstOf os A)) := by
  unfold firstOf
  rw [← List.head?_filter]
  cases q : os.filter (fun x => decide (x ∈ A)) with
  | nil => exact absurd q h
  | cons a l => rfl
theorem ok_fits_told (T : Tx K mg) : OkF P w K mg base CX0 "fits_told" 5 ps_fits_told
    (PF (fun p : Dt × List Int × Int × List Case => IsSeq p.1 (intsD p.2.1) ∧ Ord p.2.2.1 p.2.1 ∧ ToldOk p.2.2.1 p.2.2.2) (fun p => [p.1, toldD K p.2.2.1 p.2.2.2]) (fun p r => r = .bl (fitsB p.2.1 p.2.2.2))) := by
  refine Df.ok T.d_fits_told sc_fits_told (fun _ _ _ _ _ _ us hl => match us, hl with | [_, _], _ => rfl) (pf_len fun _ => rfl) (fun cdv A outer s H vs Q E hr h => ?_)
  obtain ⟨⟨d, os, n, cs⟩, B, ⟨hs, ho, ht⟩, e, st, k⟩ := pf_open (N := nm_fits_told) h
  dsimp only at hs ho ht k st
  have n1 := ht.n1
  have n2 := ht.n2
  have len := ho.len (by omega)
  refine ⟨_, PSs.nox (pss_cons (ps_set (i := 2) sc_fits_told.nd rfl (Or.inl rfl) (pe_callO (ok__said_order T) (hr.mono (by decide)) (pa_cons (pv 0) (pa_cons (pe_fld_k (K := K) (pv 1)) pa_nil))))
      (pss_cons (ps_for PassesOwn.never rfl (pi_seq_k (K := K) (pe_fld_k (K := K) (pv 1))) (pg_tup_k (K := K) (n := 2) rfl (pgs_cons (pg_name (i := 3) sc_fits_told.nd rfl (Or.inr rfl)) (pgs_cons (pg_name (i := 4) sc_fits_told.nd rfl (Or.inl rfl)) pgs_nil))) (pss_cons (ps_setLc (i := 5) (own := [("x", 6)]) rfl sc_fits_told.nd rfl rfl (sw_true rfl rfl rfl (by decide +kernel)) (pi_seq_k (K := K) (pv 2)) (blkOk_by (N := nm_fits_told) (sc := (defScope st_fits_told)) (by decide +kernel)) (fun _ _ _ _ _ => (pg_name (i := 6) sc_fits_told.nd rfl (Or.inl rfl))) (fun _ _ _ _ _ => (pts_one (pt_cmpR (op_in_k (K := K)) (pv 6) (pv 3) (by rfl)))) (fun _ _ _ _ _ => (pv 6)))
      (pss_one (ps_if (pt_cmpR (op_notIn_k (K := K)) (pe_ix (ix_list_k (K := K)) (pv 5) pe_int (fun _ _ => rfl)) (pv 4) (by rfl)) (pss_one (ps_ret pe_bl)) pss_nil))))
      (pss_one (ps_ret pe_bl)))), ?_⟩
  refine q_setE st (ev_call (d, os, n) ⟨hs, ho, n1, n2⟩ (ea_cons ev_var (ea_one (ev_fldW ev_var T.c_told T.n_told_w)))) fun σ1 B1 H1 st1 => ?_
  refine q_search caseD (fun c => [(3, lotD c.1), (4, lotD c.2)]) cs st1 (ei_seqA (ev_fldC ev_var T.c_told T.n_told_c) (.inr rfl)) (fun _ _ => eg_two) (fun c => !decide (firstOf os c.1 ∈ c.2)) (fun c _ => .same (.same (.same (.any (.any (.any (.any .nil)))))))
    (fun Bj i c σ' B' H' Nx hc _ st' ne => ?_) (fun hall σ' B' H' st' => ?_)
  · have gc := ht.good c (List.mem_of_getElem? hc)
    have fne : os.filter (fun x => decide (x ∈ c.1)) ≠ [] := fun z => by
      cases q : c.1 with
      | nil => exact gc.ne1 q
      | cons a l =>
        have ha : a ∈ c.1 := by rw [q]; exact List.mem_cons_self
        have := (List.mem_filter (p := fun x => decide (x ∈ c.1))).mpr ⟨(ho.all a).mpr (gc.l.bd a ha), decide_eq_true ha⟩
        rw [z] at this
        cases this
    refine q_setE st' (EO.ev (EO.to (eo_lc Dt.int (fun x => [(6, .int x)]) os (ei_seqA ev_var (.inr rfl)) (by omega) (fun _ _ => eg_name) (by intro a _ j hj; simpa using hj) (fun x => decide (x ∈ c.1)) (fun x _ => et_test (ev_in ev_var ev_var)) Dt.int (fun x _ _ => ev_var)) (es := intsD (os.filter fun x => decide (x ∈ c.1))) rfl)) fun σ2 B2 H2 st2 => ?_
    refine s_if st2 (et_test (ev_notIn (ev_ixL (i := 0) ev_var ev_int (firstOf_filter fne)) ev_var)) (fun hb B3 H3 st3 => ?_) (fun hb B3 H3 st3 => ?_)
    · refine s_ret st3 ev_bl fun v d' B4 H4 p g hv => k v d' B4 H4 (p.trans ?_) g hv
      congr 1
      refine Eq.symm (Bool.eq_false_iff.mpr fun z => ?_)
      have := List.all_eq_true.mp z c (List.mem_of_getElem? hc)
      rw [this] at hb
      cases hb
    · exact ne hb _ _ _ _ (.same (.same (.same (.any (.any (.any (.any .nil))))))) st3
  · refine s_ret st' ev_bl fun v d' B4 H4 p g hv => k v d' B4 H4 (p.trans ?_) g hv
    congr 1
    refine Eq.symm (List.all_eq_true.mpr fun c hc => ?_)
    have := hall c hc
    cases q : decide (firstOf os c.1 ∈ c.2) with
    | true => rfl
    | false =>
      rw [q] at this
      cases this
theorem barred_len {left : List Int} {n : Int} {c : Case} (h : GoodC n c) (hn : n ≤ 12) : (barredC left c).length ≤ 12 := by
  unfold barredC
  split
  · exact Nat.le_trans (List.length_filter_le _ _) (h.l.len12 hn)
  · exact Nat.zero_le _
theorem take_flat {α β : Type} {as : List α} {i : Nat} {a : α} (h : as[i]? = some a) (f : α → List β) : (as.take (i + 1)).flatMap f = (as.take i).flatMap f ++ f a := by
  rw [List.take_add_one, h, List.flatMap_append]
  simp
def optIx : Option Int → Dt
  | none => .non
  | some x => .int x
abbrev nm__next_taken : List PySem.Str := [("told" : PySem.Str), ("left" : PySem.Str), ("barred" : PySem.Str), ("lot" : PySem.Str), ("answer" : PySem.Str), ("free" : PySem.Str)]
abbrev ps__next_taken : List PySem.Str := [("told" : PySem.Str), ("left" : PySem.Str)]
theorem sc__next_taken : FnScope nm__next_taken ps__next_taken (defScope st__next_taken) := ⟨rfl, rfl, rfl, by decide +kernel, rfl, by decide +kernel, by decide +kernel⟩
/- slots: 0:told 1:left 2:barred 3:lot 4:answer 5:free -/
theorem ok__next_taken (T : Tx K mg) : OkF P w K mg base CX0 "_next_taken" 2 ps__next_taken
    (PF (fun p : Int × List Case × List Int => ToldOk p.1 p.2.1 ∧ Lot p.1 p.2.2) (fun p => [toldD K p.1 p.2.1, lotD p.2.2]) (fun p r => r = optIx (nextT p.2.1 p.2.2))) := by
  refine Df.ok T.d__next_taken sc__next_taken (fun _ _ _ _ _ _ us hl => match us, hl with | [_, _], _ => rfl) (pf_len fun _ => rfl) (fun cdv A outer s H vs Q E hr h => ?_)
  obtain ⟨⟨n, cs, left⟩, B, ⟨ht, hl⟩, e, st, k⟩ := pf_open (N := nm__next_taken) h
  dsimp only at ht hl k st
  have few := ht.few
  have ll := hl.len12 ht.n2
  refine ⟨_, PSs.nox (pss_cons (ps_set (i := 2) sc__next_taken.nd rfl (Or.inl rfl) (pe_lst pa_nil))
      (pss_cons (ps_for PassesOwn.never rfl (pi_seq_k (K := K) (pe_fld_k (K := K) (pv 0))) (pg_tup_k (K := K) (n := 2) rfl (pgs_cons (pg_name (i := 3) sc__next_taken.nd rfl (Or.inl rfl)) (pgs_cons (pg_name (i := 4) sc__next_taken.nd rfl (Or.inl rfl)) pgs_nil))) (pss_one (ps_if (pt_val (pe_callO (ok_inside T) (hr.mono (by decide)) (pa_cons (pv 3) (pa_cons (pv 1) pa_nil)))) (pss_one (ps_expr (pe_bm PySem.F.plainAttrs_list PySem.F.slot_list_extend PySem.F.type_list_extend (mt_extendT (K := K)) (pv 2) (pa_cons (pe_callO (ok_minus T) (hr.mono (by decide)) (pa_cons (pv 3) (pa_cons (pv 4) pa_nil))) pa_nil)))) pss_nil)))
      (pss_cons (ps_set (i := 5) sc__next_taken.nd rfl (Or.inl rfl) (pe_callO (ok_minus T) (hr.mono (by decide)) (pa_cons (pv 1) (pa_cons (pv 2) pa_nil))))
      (pss_one (ps_ret (pe_ifExp (pt_cmpR op_gt (pe_callB (call_len_k (K := K)) (by rfl) T.b_len boot_len (pa_cons (pv 5) pa_nil)) pe_int (nomark _)) (pe_ix (ix_tup_k (K := K)) (pv 5) pe_int (fun _ _ => rfl)) pe_non)))))), ?_⟩
  refine q_new st (eo_lst ea_nil) e fun σ1 B1 H1 st1 => ?_
  refine q_for caseD (fun c => [(3, lotD c.1), (4, lotD c.2)]) cs st1 (ei_seqA (ev_fldC ev_var T.c_told T.n_told_c) (.inr rfl)) (fun _ _ => eg_two)
    (fun i ρ' => ρ' = [.dat (toldD K n cs), .dat (lotD left), .own (intsD ((cs.take i).flatMap (barredC left))), .any, .any, .any] ∧ ((cs.take i).flatMap (barredC left)).length ≤ 12 * i) ⟨rfl, Nat.zero_le _⟩ ?_ ?_
  · rintro Bj i c ρ' σ' B2 H2 hc ⟨rfl, hz⟩ st2
    have gc := ht.good c (List.mem_of_getElem? hc)
    have l1 := gc.l.len12 ht.n2
    have hi : i < cs.length := (List.getElem?_eq_some_iff.mp hc).1
    have bl := barred_len (left := left) gc ht.n2
    have tf := take_flat hc (barredC left)
    refine s_if st2 (et_B (ev_call (c.1, left) (Nat.le_trans l1 (by decide)) (ea_cons ev_var (ea_one ev_var)))) (fun hb B3 H3 st3 => ?_) (fun hb B3 H3 st3 => ?_)
    · have eb : barredC left c = minusL c.1 c.2 := if_pos hb
      refine s_extT st3 rfl (ev_call (c.1, lotD c.2, c.2) ⟨gc.l.le, Nat.le_trans l1 (by decide), .inr rfl⟩ (ea_cons ev_var (ea_one ev_var))) ?_ fun B4 H4 st4 => ⟨_, B4, ⟨rfl, ?_⟩, ?_⟩
      · rw [List.length_map, List.length_map]
        rw [eb] at bl
        show _ + (minusL c.1 c.2).length ≤ _
        omega
      · rw [tf, List.length_append]
        omega
      · have q : intsD ((cs.take (i + 1)).flatMap (barredC left)) = intsD ((cs.take i).flatMap (barredC left)) ++ intsD (minusL c.1 c.2) := by
          rw [tf, eb]
          exact List.map_append
        rw [q]
        exact st4.weak (.same (.same (.same (.any (.any (.any .nil))))))
    · have eb : barredC left c = [] := if_neg (by
        show ¬(c.1.all fun x => decide (x ∈ left)) = true
        intro z
        have z2 : (c.1.all fun x => decide (x ∈ left)) = false := hb
        rw [z2] at z
        cases z)
      refine ⟨_, B3, ⟨rfl, ?_⟩, ?_⟩
      · rw [tf, eb, List.append_nil]
        omega
      · rw [tf, eb, List.append_nil]
        exact st3.weak (.same (.same (.same (.any (.any (.any .nil))))))
  · rintro ρ' σ' B2 H2 ⟨rfl, hz⟩ st2
    rw [List.take_length] at st2 hz
    obtain ⟨B3, st3⟩ := st2.know (i := 2) rfl
    refine q_setE st3 (ev_call (left, .lst (intsD (cs.flatMap (barredC left))), cs.flatMap (barredC left)) ⟨hl.le, Nat.le_trans ll (by decide), .inl rfl⟩ (ea_cons ev_var (ea_one (ev_var (i := 2))))) fun σ4 B4 H4 st4 => ?_
    have nx : nextT cs left = (left.filter fun x => !decide (x ∈ cs.flatMap (barredC left))).head? := rfl
    cases q : left.filter (fun x => !decide (x ∈ cs.flatMap (barredC left))) with
    | nil =>
      rw [q] at nx st4
      rw [nx] at k
      exact s_ret st4 (ev_if (b := false) (et_to (et_test (ev_gt (ev_lenS (ev_var (i := 5)) (.inr rfl)) ev_int)) rfl) (fun z => nomatch z) (fun _ => ev_non)) k
    | cons y l =>
      rw [q] at nx st4
      rw [nx] at k
      exact s_ret st4 (ev_if (b := true) (et_to (et_test (ev_gt (ev_lenS (ev_var (i := 5)) (.inr rfl)) ev_int)) (decide_eq_true (by rw [List.length_map, List.length_cons]; omega))) (fun _ => ev_ixT (i := 0) (ev_var (i := 5)) ev_int rfl) (fun z => nomatch z)) k
theorem nextT_mem {cs : List Case} {left : List Int} {x : Int} (h : nextT cs left = some x) : x ∈ left := (List.mem_filter.mp (List.mem_of_head? h)).1
theorem minus_one {left : List Int} {x : Int} (h : x ∈ left) : (minusL left [x]).length < left.length := by
  refine Nat.lt_of_le_of_ne (List.length_filter_le _ _) fun e => ?_
  have := (List.length_filter_eq_length_iff.mp e) x h
  simp at this
theorem peel_len {cs : List Case} : ∀ (k : Nat) (left taken : List Int), left.length ≤ k → peel cs k left taken = peel cs left.length left taken
  | 0, left, taken, h => by
    have e : left.length = 0 := by omega
    rw [e]
  | k + 1, left, taken, h => by
    cases q : nextT cs left with
    | none =>
      have e1 : peel cs (k + 1) left taken = (taken, left) := by
        show (match nextT cs left with | none => (taken, left) | some x => peel cs k (minusL left [x]) (taken ++ [x])) = _
        rw [q]
      rw [e1]
      cases left.length with
      | zero => rfl
      | succ m =>
        show _ = (match nextT cs left with | none => (taken, left) | some x => peel cs m (minusL left [x]) (taken ++ [x]))
        rw [q]
    | some x =>
      have lt := minus_one (nextT_mem q)
      have e1 : peel cs (k + 1) left taken = peel cs k (minusL left [x]) (taken ++ [x]) := by
        show (match nextT cs left with | none => (taken, left) | some x => peel cs k (minusL left [x]) (taken ++ [x])) = _
        rw [q]
      rw [e1, peel_len k _ _ (by omega)]
      obtain ⟨m, hm⟩ : ∃ m, left.length = m + 1 := ⟨left.length - 1, by omega⟩
      rw [hm]
      show _ = (match nextT cs left with | none => (taken, left) | some x => peel cs m (minusL left [x]) (taken ++ [x]))
      rw [q]
      exact (peel_len m _ _ (by omega)).symm
theorem peel_step {cs : List Case} {k : Nat} {left taken : List Int} {x : Int} (h : nextT cs left = some x) (hk : left.length ≤ k) : peel cs k left taken = peel cs k (minusL left [x]) (taken ++ [x]) := by
  have lt := minus_one (nextT_mem h)
  obtain ⟨m, hm⟩ : ∃ m, left.length = m + 1 := ⟨left.length - 1, by omega⟩
  rw [peel_len k _ _ hk, hm, peel_len k _ _ (by omega), ← peel_len m _ _ (by omega)]
  show (match nextT cs left with | none => (taken, left) | some x => peel cs m (minusL left [x]) (taken ++ [x])) = _
  rw [h]
theorem peel_done {cs : List Case} {k : Nat} {left taken : List Int} (h : nextT cs left = none) : peel cs k left taken = (taken, left) := by
  cases k with
  | zero => rfl
  | succ k =>
    show (match nextT cs left with | none => (taken, left) | some x => peel cs k (minusL left [x]) (taken ++ [x])) = _
    rw [h]
/-- the whole peel of these cases -/
abbrev peelN (n : Int) (cs : List Case) : List Int × List Int := peel cs n.toNat (upto n.toNat) []
theorem lot_upto {n : Int} (h : 0 ≤ n) : Lot n (upto n.toNat) := by
  refine ⟨?_, fun x hx => ?_⟩
  · unfold upto
    rw [List.pairwise_map]
    exact List.pairwise_lt_range.imp fun h => by omega
  · have := mem_upto.mp hx
    omega
abbrev nm__taken_and_left : List PySem.Str := [("told" : PySem.Str), ("left" : PySem.Str), ("taken" : PySem.Str), ("going" : PySem.Str)]
abbrev ps__taken_and_left : List PySem.Str := [("told" : PySem.Str)]
theorem sc__taken_and_left : FnScope nm__taken_and_left ps__taken_and_left (defScope st__taken_and_left) := ⟨rfl, rfl, rfl, by decide +kernel, rfl, by decide +kernel, by decide +kernel⟩
/- slots: 0:told 1:left 2:taken 3:going -/
theorem ok__taken_and_left (T : Tx K mg) : OkF P w K mg base CX0 "_taken_and_left" 5 ps__taken_and_left
    (PF (fun p : Int × List Case => ToldOk p.1 p.2) (fun p => [toldD K p.1 p.2]) (fun p r => r = .tup [lotD (peelN p.1 p.2).1, lotD (peelN p.1 p.2).2])) := by
  refine Df.ok T.d__taken_and_left sc__taken_and_left (fun _ _ _ _ _ _ us hl => match us, hl with | [_], _ => rfl) (pf_len fun _ => rfl) (fun cdv A outer s H vs Q E hr h => ?_)
  obtain ⟨⟨n, cs⟩, B, ht, e, st, k⟩ := pf_open (N := nm__taken_and_left) h
  dsimp only at ht k st
  have n1 := ht.n1
  have n2 := ht.n2
  have l0 : Lot n (upto n.toNat) := lot_upto (by omega)
  refine ⟨_, PSs.nox (pss_cons (ps_set (i := 1) sc__taken_and_left.nd rfl (Or.inl rfl) (pe_callO (ok_every T) (hr.mono (by decide)) (pa_cons (pe_fld_k (K := K) (pv 0)) pa_nil)))
      (pss_cons (ps_set (i := 2) sc__taken_and_left.nd rfl (Or.inl rfl) (pe_lst pa_nil))
      (pss_cons (ps_set (i := 3) sc__taken_and_left.nd rfl (Or.inl rfl) (pe_callO (ok__next_taken T) (hr.mono (by decide)) (pa_cons (pv 0) (pa_cons (pv 1) pa_nil))))
      (pss_cons (ps_while PassesOwn.never (pt_cmp (pc_notN (pv 3))) (pss_cons (ps_expr (pe_bm PySem.F.plainAttrs_list PySem.F.slot_list_append PySem.F.type_list_append mt_append (pv 2) (pa_cons (pv 3) pa_nil)))
      (pss_cons (ps_set (i := 1) sc__taken_and_left.nd rfl (Or.inl rfl) (pe_callO (ok_minus T) (hr.mono (by decide)) (pa_cons (pv 1) (pa_cons (pe_tup (pa_cons (pv 3) pa_nil)) pa_nil))))
      (pss_one (ps_set (i := 3) sc__taken_and_left.nd rfl (Or.inl rfl) (pe_callO (ok__next_taken T) (hr.mono (by decide)) (pa_cons (pv 0) (pa_cons (pv 1) pa_nil))))))))
      (pss_one (ps_ret (pe_tup (pa_cons (pe_callTy (call_tuple_k (K := K)) (by rfl) T.b_tuple boot_tuple (pa_cons (pv 2) pa_nil)) (pa_cons (pv 1) pa_nil))))))))), ?_⟩
  refine q_setE st (EVP.imp (ev_call n.toNat (by omega) (ea_one (EV.to (ev_fldW ev_var T.c_told T.n_told_w) (by congr 1; omega)))) fun d z => z) fun σ1 B1 H1 st1 => ?_
  refine q_new st1 (eo_lst ea_nil) e fun σ2 B2 H2 st2 => ?_
  refine q_setE st2 (ev_call (n, cs, upto n.toNat) ⟨ht, l0⟩ (ea_cons ev_var (ea_one ev_var))) fun σ3 B3 H3 st3 => ?_
  refine q_while (fun (p : List Int × List Int) ρ' => ρ' = [.dat (toldD K n cs), .dat (lotD p.1), .own (intsD p.2), .dat (optIx (nextT cs p.1))] ∧ Lot n p.1 ∧ p.1.length + p.2.length ≤ n.toNat ∧ peel cs n.toNat p.1 p.2 = peelN n cs)
    (fun p => p.1.length) (fun p => (nextT cs p.1).isSome) (upto n.toNat, []) st3 ⟨rfl, l0, by rw [upto_len]; exact Nat.le_refl _, rfl⟩ ?_ ?_ ?_
  · rintro ⟨left, taken⟩ ρ' ⟨rfl, hl, hz, hp⟩
    refine et_to (et_B (ev_notN ev_var)) ?_
    dsimp only
    cases nextT cs left <;> rfl
  · rintro ⟨left, taken⟩ ρ' σ' B4 H4 ⟨rfl, hl, hz, hp⟩ hc st4 N hN
    dsimp only at hl hz hp hc st4 hN
    obtain ⟨x, hx⟩ := Option.isSome_iff_exists.mp hc
    have lt := minus_one (nextT_mem hx)
    have ll := hl.len12 n2
    rw [hx] at st4
    refine q_app st4 rfl (P := fun e => e = .int x) ev_var (by rw [List.length_map]; omega) fun d B5 H5 p st5 => ?_
    subst p
    refine q_setE st5 (ev_call (left, lotD [x], [x]) ⟨hl.le, Nat.le_trans ll (by decide), .inr rfl⟩ (ea_cons ev_var (ea_one (ev_tup (ea_one ev_var))))) fun σ6 B6 H6 st6 => ?_
    refine s_setE st6 (ev_call (n, cs, minusL left [x]) ⟨ht, hl.filter _⟩ (ea_cons ev_var (ea_one ev_var))) fun σ7 B7 H7 st7 => ?_
    refine hN (minusL left [x], taken ++ [x]) _ _ B7 H7 ⟨rfl, hl.filter _, ?_, ?_⟩ lt ?_
    · dsimp only
      rw [List.length_append, List.length_singleton]
      omega
    · rw [← hp, peel_step hx (by omega)]
    · have q : intsD (taken ++ [x]) = intsD taken ++ [Dt.int x] := List.map_append
      rw [q]
      exact st7
  · rintro ⟨left, taken⟩ ρ' σ' B4 H4 ⟨rfl, hl, hz, hp⟩ hc st4
    dsimp only at hl hz hp hc st4
    have hx : nextT cs left = none := by
      cases q : nextT cs left with
      | none => rfl
      | some x =>
        rw [q] at hc
        cases hc
    obtain ⟨B5, st5⟩ := st4.know (i := 2) rfl
    rw [peel_done hx] at hp
    rw [← hp] at k
    exact s_ret st5 (ev_tup (ea_cons (ev_tuple (ev_var (i := 2))) (ea_one (ev_var (i := 1))))) k
/-- torn_told -/
def tornR (n : Int) (cs : List Case) : Dt := if (peelN n cs).1.length = n.toNat then .non else lotD (peelN n cs).2
abbrev nm_torn_told : List PySem.Str := [("told" : PySem.Str), ("taken" : PySem.Str), ("left" : PySem.Str)]
abbrev ps_torn_told : List PySem.Str := [("told" : PySem.Str)]
theorem sc_torn_told : FnScope nm_torn_told ps_torn_told (defScope st_torn_told) := ⟨rfl, rfl, rfl, by decide +kernel, rfl, by decide +kernel, by decide +kernel⟩
/- slots: 0:told 1:taken 2:left -/
theorem ok_torn_told (T : Tx K mg) : OkF P w K mg base CX0 "torn_told" 6 ps_torn_told
    (PF (fun p : Int × List Case => ToldOk p.1 p.2) (fun p => [toldD K p.1 p.2]) (fun p r => r = tornR p.1 p.2)) := by
  refine Df.ok T.d_torn_told sc_torn_told (fun _ _ _ _ _ _ us hl => match us, hl with | [_], _ => rfl) (pf_len fun _ => rfl) (fun cdv A outer s H vs Q E hr h => ?_)
  obtain ⟨⟨n, cs⟩, B, ht, e, st, k⟩ := pf_open (N := nm_torn_told) h
  dsimp only at ht k st
  have n1 := ht.n1
  refine ⟨_, PSs.nox (pss_cons (ps_asg (pe_callO (ok__taken_and_left T) (hr.mono (by decide)) (pa_cons (pv 0) pa_nil)) (pg_tup_k (K := K) (n := 2) rfl (pgs_cons (pg_name (i := 1) sc_torn_told.nd rfl (Or.inl rfl)) (pgs_cons (pg_name (i := 2) sc_torn_told.nd rfl (Or.inl rfl)) pgs_nil))))
      (pss_one (ps_ret (pe_ifExp (pt_cmpR op_eq (pe_callB (call_len_k (K := K)) (by rfl) T.b_len boot_len (pa_cons (pv 1) pa_nil)) (pe_fld_k (K := K) (pv 0)) (nomark _)) pe_non (pv 2))))), ?_⟩
  refine q_asgG st (ev_call (n, cs) ht (ea_one ev_var)) eg_two fun σ1 B1 H1 st1 => ?_
  refine s_ret (P := fun d => d = tornR n cs) st1 (ev_if (b := decide (((peelN n cs).1.length : Int) = n)) (et_to (et_test (ev_eqI (ev_lenS (ev_var (i := 1)) (.inr rfl)) (ev_fldW (ev_var (i := 0)) T.c_told T.n_told_w))) ?_) (fun hb => ?_) (fun hb => ?_)) k
  · rw [List.length_map]
  · have z := of_decide_eq_true hb
    unfold tornR
    rw [if_pos (by omega)]
    exact ev_non
  · have z := of_decide_eq_false hb
    unfold tornR
    rw [if_neg (by omega)]
    exact ev_var (i := 2)
theorem cutT {cs : List Case} {lo hi : Option Int} {ds : List Dt} (h : cutD (cs.map caseD) lo hi = ds) : cutD (cs.map caseD) lo hi = ds := h
theorem narC_ok {n : Int} {cs : List Case} (ht : ToldOk n cs) {i : Nat} {c : Case} {x : Int} (hc : cs[i]? = some c) (hx : x ∈ c.2) : ToldOk n (narC cs i c x) := by
  have gc := ht.good c (List.mem_of_getElem? hc)
  refine ⟨ht.n1, ht.n2, fun d hd => ?_, ?_⟩
  · unfold narC at hd
    rcases List.mem_append.mp hd with hd | hd
    · rcases List.mem_append.mp hd with hd | hd
      · exact ht.good d (List.mem_of_mem_take hd)
      · have e : d = (c.1, [x]) := by simpa using hd
        subst e
        refine ⟨gc.l, ⟨List.pairwise_singleton _ _, fun y hy => ?_⟩, by simp, fun y hy => ?_⟩
        · have e : y = x := by simpa using hy
          subst e
          exact gc.a.bd y hx
        · have e : y = x := by simpa using hy
          subst e
          exact gc.sub y hx
    · exact ht.good d (List.mem_of_mem_drop hd)
  · have hi : i < cs.length := (List.getElem?_eq_some_iff.mp hc).1
    have := ht.few
    unfold narC
    rw [List.length_append, List.length_append, List.length_take, List.length_drop, List.length_singleton]
    omega
abbrev nm_narrowed_told : List PySem.Str := [("told" : PySem.Str), ("place" : PySem.Str), ("world" : PySem.Str), ("lot" : PySem.Str), ("answer" : PySem.Str)]
abbrev ps_narrowed_told : List PySem.Str := [("told" : PySem.Str), ("place" : PySem.Str), ("world" : PySem.Str)]
theorem sc_narrowed_told : FnScope nm_narrowed_told ps_narrowed_told (defScope st_narrowed_told) := ⟨rfl, rfl, rfl, by decide +kernel, rfl, by decide +kernel, by decide +kernel⟩
/- slots: 0:told 1:place 2:world 3:lot 4:answer -/
theorem ok_narrowed_told (T : Tx K mg) : OkF P w K mg base CX0 "narrowed_told" 8 ps_narrowed_told
    (PF (fun p : Int × List Case × Nat × Case × Int => ToldOk p.1 p.2.1 ∧ p.2.1[p.2.2.1]? = some p.2.2.2.1 ∧ p.2.2.2.2 ∈ p.2.2.2.1.2) (fun p => [toldD K p.1 p.2.1, .int (p.2.2.1 : Int), .int p.2.2.2.2])
      (fun p r => r = toldD K p.1 (narC p.2.1 p.2.2.1 p.2.2.2.1 p.2.2.2.2))) := by
  refine Df.ok T.d_narrowed_told sc_narrowed_told (fun _ _ _ _ _ _ us hl => match us, hl with | [_, _, _], _ => rfl) (pf_len fun _ => rfl) (fun cdv A outer s H vs Q E hr h => ?_)
  obtain ⟨⟨n, cs, i, c, x⟩, B, ⟨ht, hc, hx⟩, e, st, k⟩ := pf_open (N := nm_narrowed_told) h
  dsimp only at ht hc hx k st
  have n1 := ht.n1
  have few := ht.few
  have hi : i < cs.length := (List.getElem?_eq_some_iff.mp hc).1
  have tn := narC_ok ht hc hx
  refine ⟨_, PSs.nox (pss_cons (ps_if (PW.pt (pw_or (pt_not (pt_val (pe_callO (ok_whole_number T) (hr.mono (by decide)) (pa_cons (pv 1) pa_nil)))) (pw_or (pt_cmpR op_lt (pv 1) pe_int (nomark _)) (pw_or1 (pt_cmpR op_ge (pv 1) (pe_callB (call_len_k (K := K)) (by rfl) T.b_len boot_len (pa_cons (pe_fld_k (K := K) (pv 0)) pa_nil)) (nomark _)))))) (pss_one ps_never) pss_nil)
      (pss_cons (ps_asg (pe_ix (ix_tup_k (K := K)) (pe_fld_k (K := K) (pv 0)) (pv 1) (fun _ _ => rfl)) (pg_tup_k (K := K) (n := 2) rfl (pgs_cons (pg_name (i := 3) sc_narrowed_told.nd rfl (Or.inl rfl)) (pgs_cons (pg_name (i := 4) sc_narrowed_told.nd rfl (Or.inl rfl)) pgs_nil))))
      (pss_cons (ps_if (PW.pt (pw_or (pt_not (pt_val (pe_callO (ok_whole_number T) (hr.mono (by decide)) (pa_cons (pv 2) pa_nil)))) (pw_or1 (pt_cmpR (op_notIn_k (K := K)) (pv 2) (pv 4) (by rfl))))) (pss_one ps_never) pss_nil)
      (pss_one (ps_ret (pe_makeO_k (K := K) (ok_Told___init__ T) (hr.mono (by decide)) (pa_cons (pe_fld_k (K := K) (pv 0)) (pa_cons (pe_op (op_catT_k (K := K)) (pe_op (op_catT_k (K := K)) (pe_slice (sl_tup_k (K := K)) (pe_fld_k (K := K) (pv 0)) po_none (po_some (pv 1))) (pe_tup (pa_cons (pe_tup (pa_cons (pv 3) (pa_cons (pe_tup (pa_cons (pv 2) pa_nil)) pa_nil))) pa_nil))) (pe_slice (sl_tup_k (K := K)) (pe_fld_k (K := K) (pv 0)) (po_some (pe_op op_add (pv 1) pe_int)) po_none)) pa_nil)))))))), ?_⟩
  refine q_noF st (et_or (et_not (et_B (ev_call (.int (i : Int)) rfl (ea_one ev_var)))) fun _ => et_or (et_test (ev_lt (ev_var (i := 1)) ev_int)) fun _ => et_test (ev_ge (ev_var (i := 1)) (ev_lenS (ev_fldC (ev_var (i := 0)) T.c_told T.n_told_c) (.inr rfl)))) ?_ fun B1 H1 st1 => ?_
  · rw [decide_eq_false (by omega), decide_eq_false (by rw [List.length_map]; omega)]
    rfl
  refine q_asgG st1 (ev_ixT (i := i) (d := caseD c) (ev_fldC (ev_var (i := 0)) T.c_told T.n_told_c) (ev_var (i := 1)) (by rw [List.getElem?_map, hc]; rfl)) eg_two fun σ2 B2 H2 st2 => ?_
  refine q_noF st2 (et_or (et_not (et_B (ev_call (.int x) rfl (ea_one ev_var)))) fun _ => et_test (ev_notIn (ns := c.2) (ev_var (i := 2)) (ev_var (i := 4)))) ?_ fun B3 H3 st3 => ?_
  · rw [decide_eq_true hx]
    rfl
  have z1 : (cs.map caseD).take i ++ [caseD (c.1, [x])] ++ (cs.map caseD).drop (i + 1) = (narC cs i c x).map caseD := by
    unfold narC
    rw [List.map_append, List.map_append, List.map_take, List.map_drop]
    rfl
  have l1 : (cs.map caseD).length = cs.length := List.length_map ..
  refine s_ret (P := fun d => d = toldD K n (narC cs i c x)) st3 (EV.to (ev_makeTold (n := n) (e0 := casesT (narC cs i c x)) ht.n1 ht.n2 tn.in_ (ea_cons (ev_fldW (ev_var (i := 0)) T.c_told T.n_told_w) (ea_one (EV.to (ev_catT (ev_catT (EV.to (ev_slT (ev_fldC (ev_var (i := 0)) T.c_told T.n_told_c) eo_none (eo_some (ev_var (i := 1)))) (congrArg Dt.tup (cutD_to (by omega))))
    (ev_tup (ea_one (ev_tup (ea_cons (ev_var (i := 3)) (ea_one (ev_tup (ea_one (ev_var (i := 2)))))))))
    ?_) (EV.to (ev_slT (ev_fldC (ev_var (i := 0)) T.c_told T.n_told_c) (eo_some (EV.to (ev_add (ev_var (i := 1)) ev_int) (y := .int ((i + 1 : Nat) : Int)) rfl)) eo_none) (congrArg Dt.tup (cutD_from (by omega)))) ?_) (congrArg Dt.tup z1))))) ?_) k
  · rw [List.length_take, l1]
    show min i cs.length + 1 ≤ _
    omega
  · rw [List.length_append, List.length_take, List.length_drop, l1]
    show min i cs.length + 1 + _ ≤ _
    omega
  · rw [List.map_map, show ((fun p : Dt × Case => p.2) ∘ fun c : Case => (caseD c, c)) = id from rfl, List.map_id]
abbrev Want := Nat × Case × Int
abbrev peelW (n : Int) (cs : List Case) (v : Want) : List Int × List Int := peelN n (narC cs v.1 v.2.1 v.2.2)
def fullW (n : Int) (cs : List Case) (v : Want) : Bool := !decide ((peelW n cs v).1.length < n.toNat)
def otR (n : Int) (cs : List Case) (v : Want) : Dt := if fullW n cs v then .tup [lotD (peelW n cs v).1, .non] else .tup [.non, lotD (peelW n cs v).2]
abbrev nm__order_or_tear : List PySem.Str := [("told" : PySem.Str), ("place" : PySem.Str), ("one" : PySem.Str), ("taken" : PySem.Str), ("left" : PySem.Str)]
abbrev ps__order_or_tear : List PySem.Str := [("told" : PySem.Str), ("place" : PySem.Str), ("one" : PySem.Str)]
theorem sc__order_or_tear : FnScope nm__order_or_tear ps__order_or_tear (defScope st__order_or_tear) := ⟨rfl, rfl, rfl, by decide +kernel, rfl, by decide +kernel, by decide +kernel⟩
/- slots: 0:told 1:place 2:one 3:taken 4:left -/
theorem ok__order_or_tear (T : Tx K mg) : OkF P w K mg base CX0 "_order_or_tear" 9 ps__order_or_tear
    (PF (fun p : Int × List Case × Want => ToldOk p.1 p.2.1 ∧ p.2.1[p.2.2.1]? = some p.2.2.2.1 ∧ p.2.2.2.2 ∈ p.2.2.2.1.2) (fun p => [toldD K p.1 p.2.1, .int (p.2.2.1 : Int), .int p.2.2.2.2])
      (fun p r => r = otR p.1 p.2.1 p.2.2)) := by
  refine Df.ok T.d__order_or_tear sc__order_or_tear (fun _ _ _ _ _ _ us hl => match us, hl with | [_, _, _], _ => rfl) (pf_len fun _ => rfl) (fun cdv A outer s H vs Q E hr h => ?_)
  obtain ⟨⟨n, cs, v⟩, B, ⟨ht, hc, hx⟩, e, st, k⟩ := pf_open (N := nm__order_or_tear) h
  dsimp only at ht hc hx k st
  have n1 := ht.n1
  have tn := narC_ok ht hc hx
  refine ⟨_, PSs.nox (pss_cons (ps_asg (pe_callO (ok__taken_and_left T) (hr.mono (by decide)) (pa_cons (pe_callO (ok_narrowed_told T) (hr.mono (by decide)) (pa_cons (pv 0) (pa_cons (pv 1) (pa_cons (pv 2) pa_nil)))) pa_nil)) (pg_tup_k (K := K) (n := 2) rfl (pgs_cons (pg_name (i := 3) sc__order_or_tear.nd rfl (Or.inl rfl)) (pgs_cons (pg_name (i := 4) sc__order_or_tear.nd rfl (Or.inl rfl)) pgs_nil))))
      (pss_cons (ps_if (pt_cmpR op_lt (pe_callB (call_len_k (K := K)) (by rfl) T.b_len boot_len (pa_cons (pv 3) pa_nil)) (pe_fld_k (K := K) (pv 0)) (nomark _)) (pss_one (ps_ret (pe_tup (pa_cons pe_non (pa_cons (pv 4) pa_nil))))) pss_nil)
      (pss_one (ps_ret (pe_tup (pa_cons (pv 3) (pa_cons pe_non pa_nil))))))), ?_⟩
  refine q_asgG st (ev_call (n, narC cs v.1 v.2.1 v.2.2) tn (ea_one (ev_call (n, cs, v) ⟨ht, hc, hx⟩ (ea_cons ev_var (ea_cons ev_var (ea_one ev_var)))))) eg_two fun σ1 B1 H1 st1 => ?_
  have e1 : decide (((intsD (peelW n cs v).1).length : Int) < n) = !fullW n cs v := by
    unfold fullW
    rw [Bool.not_not, List.length_map]
    exact decide_eq_decide.mpr (by omega)
  refine q_ifN st1 (et_to (et_test (ev_lt (ev_lenS (ev_var (i := 3)) (.inr rfl)) (ev_fldW (ev_var (i := 0)) T.c_told T.n_told_w))) e1) (fun hb B2 H2 st2 => ?_) (fun hb B2 H2 st2 => ?_)
  · refine s_ret (P := fun d => d = otR n cs v) st2 ?_ fun v d B H p g hv => k v d B H p g hv
    unfold otR
    rw [if_neg (by intro z; rw [z] at hb; cases hb)]
    exact ev_tup (ea_cons ev_non (ea_one (ev_var (i := 4))))
  · refine s_ret (P := fun d => d = otR n cs v) st2 ?_ fun v d B H p g hv => k v d B H p g hv
    unfold otR
    rw [if_pos (by cases q : fullW n cs v with
      | true => rfl
      | false =>
        rw [q] at hb
        cases hb)]
    exact ev_tup (ea_cons (ev_var (i := 3)) (ea_one ev_non))
def wantC (l : List (Nat × Case)) : List Want := l.flatMap fun p => p.2.2.map fun x => (p.1, p.2, x)
def ordGo (n : Int) (cs : List Case) : List Want → List Dt → Dt
  | [], acc => .tup acc
  | v :: vs, acc => if fullW n cs v then ordGo n cs vs (acc ++ [lotD (peelW n cs v).1]) else .non
def whyGo (n : Int) (cs : List Case) : List Want → Dt
  | [] => .non
  | v :: vs => if fullW n cs v then whyGo n cs vs else .tup [.int (v.1 : Int), .int v.2.2, lotD (peelW n cs v).2]
abbrev nm_orders_told : List PySem.Str := [("told" : PySem.Str), ("orders" : PySem.Str), ("place" : PySem.Str), ("lot" : PySem.Str), ("answer" : PySem.Str), ("one" : PySem.Str), ("order" : PySem.Str), ("tear" : PySem.Str)]
abbrev ps_orders_told : List PySem.Str := [("told" : PySem.Str)]
theorem sc_orders_told : FnScope nm_orders_told ps_orders_told (defScope st_orders_told) := ⟨rfl, rfl, rfl, by decide +kernel, rfl, by decide +kernel, by decide +kernel⟩
/- slots: 0:told 1:orders 2:place 3:lot 4:answer 5:one 6:order 7:tear -/
theorem ok_orders_told (T : Tx K mg) : OkF P w K mg base CX0 "orders_told" 10 ps_orders_told
    (PF (fun p : Int × List Case => ToldOk p.1 p.2) (fun p => [toldD K p.1 p.2]) (fun p r => r = ordGo p.1 p.2 (wantC (enumP 0 p.2)) [])) := by
  refine Df.ok T.d_orders_told sc_orders_told (fun _ _ _ _ _ _ us hl => match us, hl with | [_], _ => rfl) (pf_len fun _ => rfl) (fun cdv A outer s H vs Q E hr h => ?_)
  obtain ⟨⟨n, cs⟩, B, ht, e, st, k⟩ := pf_open (N := nm_orders_told) h
  dsimp only at ht k st
  have few := ht.few
  refine ⟨_, PSs.nox (pss_cons (ps_set (i := 1) sc_orders_told.nd rfl (Or.inl rfl) (pe_lst pa_nil))
      (pss_cons (ps_for PassesOwn.never rfl (pi_enum_k (K := K) T.b_enumerate (pa_cons (pe_fld_k (K := K) (pv 0)) pa_nil)) (pg_tup_k (K := K) (n := 2) rfl (pgs_cons (pg_name (i := 2) sc_orders_told.nd rfl (Or.inl rfl)) (pgs_cons (pg_tup_k (K := K) (n := 2) rfl (pgs_cons (pg_name (i := 3) sc_orders_told.nd rfl (Or.inl rfl)) (pgs_cons (pg_name (i := 4) sc_orders_told.nd rfl (Or.inl rfl)) pgs_nil))) pgs_nil))) (pss_one (ps_for PassesOwn.never rfl (pi_seq_k (K := K) (pv 4)) (pg_name (i := 5) sc_orders_told.nd rfl (Or.inl rfl)) (pss_cons (ps_asg (pe_callO (ok__order_or_tear T) (hr.mono (by decide)) (pa_cons (pv 0) (pa_cons (pv 2) (pa_cons (pv 5) pa_nil)))) (pg_tup_k (K := K) (n := 2) rfl (pgs_cons (pg_name (i := 6) sc_orders_told.nd rfl (Or.inl rfl)) (pgs_cons (pg_name (i := 7) sc_orders_told.nd rfl (Or.inl rfl)) pgs_nil))))
      (pss_cons (ps_if (pt_cmp (pc_notN (pv 7))) (pss_one (ps_ret pe_non)) pss_nil)
      (pss_one (ps_expr (pe_bm PySem.F.plainAttrs_list PySem.F.slot_list_append PySem.F.type_list_append mt_append (pv 1) (pa_cons (pv 6) pa_nil)))))))))
      (pss_one (ps_ret (pe_callTy (call_tuple_k (K := K)) (by rfl) T.b_tuple boot_tuple (pa_cons (pv 1) pa_nil)))))), ?_⟩
  refine q_new st (eo_lst ea_nil) e fun σ1 B1 H1 st1 => ?_
  refine q_for (fun p : Nat × Case => Dt.tup [.int ((p.1 : Nat) : Int), caseD p.2]) (fun p => [(2, .int ((p.1 : Nat) : Int)), (3, lotD p.2.1), (4, lotD p.2.2)]) (enumP 0 cs) st1 (ei_to (ei_enumA (ev_fldC (ev_var (i := 0)) T.c_told T.n_told_c) (.inr rfl)) (enumD_map caseD cs 0))
    (fun a _ => eg_tup (egs_cons (l := [(2, Dt.int ((a.1 : Nat) : Int))]) eg_name (egs_cons (l := [(3, lotD a.2.1), (4, lotD a.2.2)]) (m := []) eg_two egs_nil)) rfl)
    (fun i ρ' => ∃ acc, ρ' = [.dat (toldD K n cs), .own acc, .any, .any, .any, .any, .any, .any] ∧ acc.length ≤ 12 * i ∧ ordGo n cs (wantC (enumP 0 cs)) [] = ordGo n cs (wantC ((enumP 0 cs).drop i)) acc) ⟨[], rfl, Nat.zero_le _, rfl⟩ ?_ ?_
  · rintro Bj i ⟨i', c⟩ ρ' σ' B2 H2 ha ⟨acc, rfl, hz, hg⟩ st2
    rw [drop_get ha] at hg
    rw [enumP_get] at ha
    obtain ⟨c', hc, e2⟩ := Option.map_eq_some_iff.mp ha
    obtain ⟨rfl, rfl⟩ := Prod.mk.inj e2
    rw [Nat.zero_add] at st2 hg
    have gc := ht.good c' (List.mem_of_getElem? hc)
    have l2 := gc.a.len12 ht.n2
    have hi : i < cs.length := (List.getElem?_eq_some_iff.mp hc).1
    have hg' : ordGo n cs (wantC (enumP 0 cs)) [] = ordGo n cs ((c'.2.map fun x => (i, c', x)) ++ wantC ((enumP 0 cs).drop (i + 1))) acc := hg
    refine s_for Dt.int (fun x => [(5, .int x)]) c'.2 st2 (ei_seqA (ev_var (i := 4)) (.inr rfl)) (fun _ _ => eg_name)
      (fun j ρ' => ∃ acc2, ρ' = [.dat (toldD K n cs), .own acc2, .dat (.int (i : Int)), .dat (lotD c'.1), .dat (lotD c'.2), .any, .any, .any] ∧ acc2.length = acc.length + j ∧ ordGo n cs (wantC (enumP 0 cs)) [] = ordGo n cs (((c'.2.drop j).map fun x => (i, c', x)) ++ wantC ((enumP 0 cs).drop (i + 1))) acc2) ⟨acc, rfl, rfl, hg'⟩ ?_ ?_
    · rintro Bk2 j x ρ' σ' B3 H3 hx ⟨acc2, rfl, hz2, hg2⟩ st3
      have hj : j < c'.2.length := (List.getElem?_eq_some_iff.mp hx).1
      rw [drop_get hx] at hg2
      have hg3 : ordGo n cs (wantC (enumP 0 cs)) [] = if fullW n cs (i, c', x) then ordGo n cs (((c'.2.drop (j + 1)).map fun x => (i, c', x)) ++ wantC ((enumP 0 cs).drop (i + 1))) (acc2 ++ [lotD (peelW n cs (i, c', x)).1]) else .non := hg2
      have ot := ev_call (pre := fun p : Int × List Case × Want => ToldOk p.1 p.2.1 ∧ p.2.1[p.2.2.1]? = some p.2.2.2.1 ∧ p.2.2.2.2 ∈ p.2.2.2.1.2) (args := fun p => [toldD K p.1 p.2.1, .int (p.2.2.1 : Int), .int p.2.2.2.2]) (res := fun p r => r = otR p.1 p.2.1 p.2.2) (D := none)
        (E := E0) (n, cs, (i, c', x)) ⟨ht, hc, List.mem_of_getElem? hx⟩ (ea_cons (ev_var (ρ := setR [.dat (toldD K n cs), .own acc2, .dat (.int (i : Int)), .dat (lotD c'.1), .dat (lotD c'.2), .any, .any, .any] [(5, .int x)]) (i := 0)) (ea_cons (ev_var (i := 2)) (ea_one (ev_var (i := 5)))))
      cases hf : fullW n cs (i, c', x) with
      | true =>
        rw [hf] at hg3
        have ot2 : otR n cs (i, c', x) = .tup [lotD (peelW n cs (i, c', x)).1, .non] := if_pos hf
        refine q_asgG st3 (EVP.imp ot fun d z => z.trans ot2) eg_two fun σ4 B4 H4 st4 => ?_
        refine q_noF st4 (et_B (ev_notN (ev_var (i := 7)))) rfl fun B5 H5 st5 => ?_
        refine s_app st5 rfl (P := fun e => e = lotD (peelW n cs (i, c', x)).1) (ev_var (i := 6)) (by omega) fun d B6 H6 p st6 => ⟨_, B6, ⟨_, rfl, ?_, ?_⟩, st6.weak (.same (.same (.same (.same (.same (.any (.any (.any .nil))))))))⟩
        · rw [List.length_append, List.length_singleton]
          omega
        · subst p
          exact hg3
      | false =>
        rw [hf] at hg3
        have ot2 : otR n cs (i, c', x) = .tup [.non, lotD (peelW n cs (i, c', x)).2] := if_neg (by rw [hf]; exact Bool.false_ne_true)
        refine q_asgG st3 (EVP.imp ot fun d z => z.trans ot2) eg_two fun σ4 B4 H4 st4 => ?_
        refine q_if st4 (b := true) (et_to (et_B (ev_notN (ev_var (i := 7)))) rfl) (fun _ B5 H5 st5 => ?_) (fun z => nomatch z)
        exact s_ret st5 ev_non fun v d B6 H6 p g hv => k v d B6 H6 (p.trans hg3.symm) g hv
    · rintro ρ' σ' B3 H3 ⟨acc2, rfl, hz2, hg2⟩ st3
      rw [List.drop_length] at hg2
      exact ⟨_, B3, ⟨acc2, rfl, by omega, hg2⟩, st3.weak (.same (.same (.any (.any (.any (.any (.any (.any .nil))))))))⟩
  · rintro ρ' σ' B2 H2 ⟨acc, rfl, hz, hg⟩ st2
    rw [List.drop_eq_nil_of_le (by rw [enumP_len]; exact Nat.le_refl _)] at hg
    obtain ⟨B3, st3⟩ := st2.know (i := 1) rfl
    exact s_ret st3 (ev_tuple (ev_var (i := 1))) fun v d B4 H4 p g hv => k v d B4 H4 (p.trans hg.symm) g hv
abbrev nm_why_no_orders : List PySem.Str := [("told" : PySem.Str), ("place" : PySem.Str), ("lot" : PySem.Str), ("answer" : PySem.Str), ("one" : PySem.Str), ("order" : PySem.Str), ("tear" : PySem.Str)]
abbrev ps_why_no_orders : List PySem.Str := [("told" : PySem.Str)]
theorem sc_why_no_orders : FnScope nm_why_no_orders ps_why_no_orders (defScope st_why_no_orders) := ⟨rfl, rfl, rfl, by decide +kernel, rfl, by decide +kernel, by decide +kernel⟩
/- slots: 0:told 1:place 2:lot 3:answer 4:one 5:order 6:tear -/
theorem ok_why_no_orders (T : Tx K mg) : OkF P w K mg base CX0 "why_no_orders" 10 ps_why_no_orders
    (PF (fun p : Int × List Case => ToldOk p.1 p.2) (fun p => [toldD K p.1 p.2]) (fun p r => r = whyGo p.1 p.2 (wantC (enumP 0 p.2)))) := by
  refine Df.ok T.d_why_no_orders sc_why_no_orders (fun _ _ _ _ _ _ us hl => match us, hl with | [_], _ => rfl) (pf_len fun _ => rfl) (fun cdv A outer s H vs Q E hr h => ?_)
  obtain ⟨⟨n, cs⟩, B, ht, e, st, k⟩ := pf_open (N := nm_why_no_orders) h
  dsimp only at ht k st
  have few := ht.few
  refine ⟨_, PSs.nox (pss_cons (ps_for PassesOwn.never rfl (pi_enum_k (K := K) T.b_enumerate (pa_cons (pe_fld_k (K := K) (pv 0)) pa_nil)) (pg_tup_k (K := K) (n := 2) rfl (pgs_cons (pg_name (i := 1) sc_why_no_orders.nd rfl (Or.inl rfl)) (pgs_cons (pg_tup_k (K := K) (n := 2) rfl (pgs_cons (pg_name (i := 2) sc_why_no_orders.nd rfl (Or.inl rfl)) (pgs_cons (pg_name (i := 3) sc_why_no_orders.nd rfl (Or.inl rfl)) pgs_nil))) pgs_nil))) (pss_one (ps_for PassesOwn.never rfl (pi_seq_k (K := K) (pv 3)) (pg_name (i := 4) sc_why_no_orders.nd rfl (Or.inl rfl)) (pss_cons (ps_asg (pe_callO (ok__order_or_tear T) (hr.mono (by decide)) (pa_cons (pv 0) (pa_cons (pv 1) (pa_cons (pv 4) pa_nil)))) (pg_tup_k (K := K) (n := 2) rfl (pgs_cons (pg_name (i := 5) sc_why_no_orders.nd rfl (Or.inl rfl)) (pgs_cons (pg_name (i := 6) sc_why_no_orders.nd rfl (Or.inl rfl)) pgs_nil))))
      (pss_one (ps_if (pt_cmp (pc_notN (pv 6))) (pss_one (ps_ret (pe_tup (pa_cons (pv 1) (pa_cons (pv 4) (pa_cons (pv 6) pa_nil)))))) pss_nil))))))
      (pss_one (ps_ret pe_non))), ?_⟩
  refine q_for (fun p : Nat × Case => Dt.tup [.int ((p.1 : Nat) : Int), caseD p.2]) (fun p => [(1, .int ((p.1 : Nat) : Int)), (2, lotD p.2.1), (3, lotD p.2.2)]) (enumP 0 cs) st (ei_to (ei_enumA (ev_fldC (ev_var (i := 0)) T.c_told T.n_told_c) (.inr rfl)) (enumD_map caseD cs 0))
    (fun a _ => eg_tup (egs_cons (l := [(1, Dt.int ((a.1 : Nat) : Int))]) eg_name (egs_cons (l := [(2, lotD a.2.1), (3, lotD a.2.2)]) (m := []) eg_two egs_nil)) rfl)
    (fun i ρ' => ρ' = [.dat (toldD K n cs), .any, .any, .any, .any, .any, .any] ∧ whyGo n cs (wantC (enumP 0 cs)) = whyGo n cs (wantC ((enumP 0 cs).drop i))) ⟨rfl, rfl⟩ ?_ ?_
  · rintro Bj i ⟨i', c⟩ ρ' σ' B2 H2 ha ⟨rfl, hg⟩ st2
    rw [drop_get ha] at hg
    rw [enumP_get] at ha
    obtain ⟨c', hc, e2⟩ := Option.map_eq_some_iff.mp ha
    obtain ⟨rfl, rfl⟩ := Prod.mk.inj e2
    rw [Nat.zero_add] at st2 hg
    have gc := ht.good c' (List.mem_of_getElem? hc)
    have l2 := gc.a.len12 ht.n2
    have hg' : whyGo n cs (wantC (enumP 0 cs)) = whyGo n cs ((c'.2.map fun x => (i, c', x)) ++ wantC ((enumP 0 cs).drop (i + 1))) := hg
    refine s_for Dt.int (fun x => [(4, .int x)]) c'.2 st2 (ei_seqA (ev_var (i := 3)) (.inr rfl)) (fun _ _ => eg_name)
      (fun j ρ' => ρ' = [.dat (toldD K n cs), .dat (.int (i : Int)), .dat (lotD c'.1), .dat (lotD c'.2), .any, .any, .any] ∧ whyGo n cs (wantC (enumP 0 cs)) = whyGo n cs (((c'.2.drop j).map fun x => (i, c', x)) ++ wantC ((enumP 0 cs).drop (i + 1)))) ⟨rfl, hg'⟩ ?_ ?_
    · rintro Bk2 j x ρ' σ' B3 H3 hx ⟨rfl, hg2⟩ st3
      rw [drop_get hx] at hg2
      have hg3 : whyGo n cs (wantC (enumP 0 cs)) = if fullW n cs (i, c', x) then whyGo n cs (((c'.2.drop (j + 1)).map fun x => (i, c', x)) ++ wantC ((enumP 0 cs).drop (i + 1))) else .tup [.int (i : Int), .int x, lotD (peelW n cs (i, c', x)).2] := hg2
      have ot := ev_call (pre := fun p : Int × List Case × Want => ToldOk p.1 p.2.1 ∧ p.2.1[p.2.2.1]? = some p.2.2.2.1 ∧ p.2.2.2.2 ∈ p.2.2.2.1.2) (args := fun p => [toldD K p.1 p.2.1, .int (p.2.2.1 : Int), .int p.2.2.2.2]) (res := fun p r => r = otR p.1 p.2.1 p.2.2) (D := none)
        (E := E0) (n, cs, (i, c', x)) ⟨ht, hc, List.mem_of_getElem? hx⟩ (ea_cons (ev_var (ρ := setR [.dat (toldD K n cs), .dat (.int (i : Int)), .dat (lotD c'.1), .dat (lotD c'.2), .any, .any, .any] [(4, .int x)]) (i := 0)) (ea_cons (ev_var (i := 1)) (ea_one (ev_var (i := 4)))))
      cases hf : fullW n cs (i, c', x) with
      | true =>
        rw [hf] at hg3
        have ot2 : otR n cs (i, c', x) = .tup [lotD (peelW n cs (i, c', x)).1, .non] := if_pos hf
        refine q_asgG st3 (EVP.imp ot fun d z => z.trans ot2) eg_two fun σ4 B4 H4 st4 => ?_
        refine s_if st4 (b := false) (et_to (et_B (ev_notN (ev_var (i := 6)))) rfl) (fun z => nomatch z) fun _ B5 H5 st5 => ⟨_, B5, ⟨rfl, hg3⟩, st5.weak (.same (.same (.same (.same (.any (.any (.any .nil)))))))⟩
      | false =>
        rw [hf] at hg3
        have ot2 : otR n cs (i, c', x) = .tup [.non, lotD (peelW n cs (i, c', x)).2] := if_neg (by rw [hf]; exact Bool.false_ne_true)
        refine q_asgG st3 (EVP.imp ot fun d z => z.trans ot2) eg_two fun σ4 B4 H4 st4 => ?_
        refine s_if st4 (b := true) (et_to (et_B (ev_notN (ev_var (i := 6)))) rfl) (fun _ B5 H5 st5 => ?_) (fun z => nomatch z)
        exact s_ret st5 (ev_tup (ea_cons (ev_var (i := 1)) (ea_cons (ev_var (i := 4)) (ea_one (ev_var (i := 6)))))) fun v d B6 H6 p g hv => k v d B6 H6 (p.trans hg3.symm) g hv
    · rintro ρ' σ' B3 H3 ⟨rfl, hg2⟩ st3
      rw [List.drop_length] at hg2
      exact ⟨_, B3, ⟨rfl, hg2⟩, st3.weak (.same (.any (.any (.any (.any (.any (.any .nil)))))))⟩
  · rintro ρ' σ' B2 H2 ⟨rfl, hg⟩ st2
    rw [List.drop_eq_nil_of_le (by rw [enumP_len]; exact Nat.le_refl _)] at hg
    exact s_ret st2 ev_non fun v d B4 H4 p g hv => k v d B4 H4 (p.trans hg.symm) g hv
end
end K37
/-! K37T: newsbooks.tables -/
namespace K37
open PySem PyProof.Rows L2
open Evl (Ex)
/-! ### two fors -/
section
variable {D : Option Addr} {ρ : List Sl} {te : TE} {wi wi1 : TI} {g g1 : TG} {vs vs1 : List Nat} {α β : Type}
theorem eo_lc2 (f : α → Dt) (l : α → List (Nat × Dt)) (as : List α) (hi : EI D wi ρ (as.map f)) (hg : ∀ a ∈ as, EG g (f a) (l a)) (hv : ∀ a ∈ as, ∀ j ∈ (l a).map (·.1), j ∈ vs)
    (f1 : α → β → Dt) (l1 : α → β → List (Nat × Dt)) (as1 : α → List β) (hi1 : ∀ a ∈ as, EI D wi1 (setR (wipeR ρ vs) (l a)) ((as1 a).map (f1 a)))
    (hg1 : ∀ a ∈ as, ∀ b ∈ as1 a, EG g1 (f1 a b) (l1 a b)) (hv1 : ∀ a ∈ as, ∀ b ∈ as1 a, ∀ j ∈ (l1 a b).map (·.1), j ∈ vs1)
    (F : α → β → Dt) (he : ∀ a ∈ as, ∀ b ∈ as1 a, EV D te (setR (wipeR (setR (wipeR ρ vs) (l a)) vs1) (l1 a b)) (F a b))
    (hz : (as.flatMap fun a => (as1 a).map (F a)).length ≤ 100000) : EO D (tLc2 wi g tYes wi1 g1 tYes te vs vs1) ρ (as.flatMap fun a => (as1 a).map (F a)) := by
  intro σ B H r Q q
  refine hi σ B H r _ fun J ds B1 H1 pd g1' w => ?_
  subst pd
  intro p hp
  have hlen : (as.map f).length = as.length := List.length_map ..
  have z1 : B1 p = none := ex_none g1'.i hp
  have r1 := r.gr g1'
  have hpD : some p ≠ D := fun e => by
    obtain ⟨_, ns, h⟩ := r1.dr p e.symm
    rw [h] at hp
    cases hp
  let G : α → List Dt := fun a => (as1 a).map (F a)
  refine ⟨fun i m H' => m = as.length - i ∧ i ≤ as.length ∧ CI D B1 H1 p (fun i es => es = (as.take i).flatMap G) i H', ⟨as.length, by simp, Nat.zero_le _, B1, [], [], Gr.newO g1'.i hp, z1, upd_same, rfl, by simp⟩, ?_⟩
  rintro i m H2 ⟨rfl, hi', B2, xs, es, g2, z2, h2, l2, pv⟩
  by_cases hlt : i < as.length
  · refine .inr ⟨w.goes i H2 (by rw [hlen]; exact hlt) (g2.b.trans g2.i), fun H' => CI D B1 H1 p (fun i es => es = (as.take i).flatMap G) (i + 1) H', fun H' h => ⟨_, by omega, rfl, by omega, h⟩, ?_⟩
    intro x H3 y
    obtain ⟨d, B3, q3, g3, hd⟩ := w.yields i B2 H2 x H3 (by rw [hlen]; exact hlt) g2.b g2.i y
    have ha : as[i]? = some as[i] := List.getElem?_eq_getElem hlt
    have hm : as[i] ∈ as := List.getElem_mem hlt
    have ed : f as[i] = d := by
      rw [List.getElem?_map, ha] at q3
      exact Option.some.inj q3
    subst ed
    generalize as[i] = a at ha hm hd
    have gD := g3 D
    have z3 := gD.k p _ hpD h2 z2
    have g23 := g2.trans gD
    have r3 : Rl D (wipeR ρ vs) (wipe σ vs) B3 H3 := ((r1.gr g2).gr gD).wipe vs
    refine hg _ hm (wipe σ vs) B3 H3 x gD.i hd _ fun us hu => ⟨wipe_setV (hv _ hm), ?_⟩
    have r4 := Rl.sets r3 hu
    show wi1 _ H3 _
    refine hi1 _ hm _ B3 H3 r4 _ fun J1 ds1 B4 H4 pd1 g4 w1 => ?_
    subst pd1
    have z4 := g4.k p _ hpD z3.2 z3.1
    have hlen1 : ((as1 a).map (f1 a)).length = (as1 a).length := List.length_map ..
    refine ⟨fun j k H' => k = (as1 a).length - j ∧ j ≤ (as1 a).length ∧ ∃ B' xs es, Gr D B1 H1 B' H' ∧ Ex B4 B' ∧ B' p = none ∧ H' p = some (.lst xs) ∧ HasL es xs B' ∧ es = (as.take i).flatMap G ++ ((as1 a).take j).map (F a),
      ⟨_, rfl, Nat.zero_le _, B4, xs, es, g23.trans g4, Ex.refl _, z4.1, z4.2, (l2.mono gD.b).mono g4.b, by rw [pv]; simp⟩, ?_⟩
    rintro j k H5 ⟨rfl, hj', B5, ys, fs, g5, e45, z5, h5, l5, pf⟩
    by_cases hlt1 : j < (as1 a).length
    · refine .inr ⟨w1.goes j H5 (by rw [hlen1]; exact hlt1) (e45.trans g5.i), fun H' => ∃ B' xs es, Gr D B1 H1 B' H' ∧ Ex B4 B' ∧ B' p = none ∧ H' p = some (.lst xs) ∧ HasL es xs B' ∧ es = (as.take i).flatMap G ++ ((as1 a).take (j + 1)).map (F a),
        fun H' h => ⟨_, by omega, rfl, by omega, h⟩, ?_⟩
      intro x1 H6 y1
      obtain ⟨d1, B6, q6, g6, hd1⟩ := w1.yields j B5 H5 x1 H6 (by rw [hlen1]; exact hlt1) e45 g5.i y1
      have hb : (as1 a)[j]? = some (as1 a)[j] := List.getElem?_eq_getElem hlt1
      have hmb : (as1 a)[j] ∈ as1 a := List.getElem_mem hlt1
      have ed1 : f1 a (as1 a)[j] = d1 := by
        rw [List.getElem?_map, hb] at q6
        exact Option.some.inj q6
      subst ed1
      generalize (as1 a)[j] = b at hb hmb hd1
      have gD6 := g6 D
      have z6 := gD6.k p _ hpD h5 z5
      have g56 := g5.trans gD6
      have e36 : Ex B3 B6 := (g4.b.trans e45).trans gD6.b
      have r6 : Rl D (setR (wipeR ρ vs) (l a)) (setV (wipe σ vs) ((l a).map (·.1)) us) B6 H6 := Rl.sets ((r1.gr g56).wipe vs) (hu.mono e36)
      refine hg1 _ hm _ hmb _ B6 H6 x1 gD6.i hd1 _ fun us1 hu1 => ⟨wipe_setV (hv1 _ hm _ hmb), ?_⟩
      show te _ H6 _
      refine he _ hm _ hmb _ B6 H6 (Rl.sets (r6.wipe vs1) hu1) _ fun v e B7 H7 pe g7 hv7 => ?_
      subst pe
      have z7 := g7.k p _ hpD z6.2 z6.1
      have len : fs.length + 1 ≤ 100000 := by
        have e1 : (as.take i).flatMap G ++ ((as1 a).take (j + 1)).map (F a) = fs ++ [F a b] := by
          rw [pf, List.take_add_one, hb, List.map_append, List.append_assoc]
          rfl
        have e2 : fs.length + 1 = ((as.take i).flatMap G ++ ((as1 a).take (j + 1)).map (F a)).length := by
          rw [e1, List.length_append]
          rfl
        have e3 : (as.take (i + 1)).flatMap G = (as.take i).flatMap G ++ G a := by
          rw [List.take_add_one, ha, List.flatMap_append]
          simp
        have e4 : (as.flatMap G).length = ((as.take (i + 1)).flatMap G).length + ((as.drop (i + 1)).flatMap G).length := by
          rw [← List.length_append, ← List.flatMap_append, List.take_append_drop]
        have e5 : (((as1 a).take (j + 1)).map (F a)).length ≤ (G a).length := by
          show _ ≤ ((as1 a).map (F a)).length
          rw [List.length_map, List.length_map]
          exact List.length_take_le' _ _
        rw [e3, List.length_append] at e4
        rw [List.length_append] at e2
        have hz' : (as.flatMap G).length ≤ 100000 := hz
        omega
      refine ⟨ys, z7.2, Nat.lt_of_lt_of_le (show ys.length < 100001 by rw [l5.length]; omega) (by decide), B7, ys ++ [v], fs ++ [F a b], (g56.trans g7).mut hp z7.1, (e45.trans gD6.b).trans g7.b, z7.1, upd_same, ((l5.mono gD6.b).mono g7.b).append (HasL.one hv7), ?_⟩
      rw [pf, List.take_add_one, hb, List.map_append, List.append_assoc]
      rfl
    · have e : j = (as1 a).length := by omega
      subst e
      have st := w1.stops H5 (e45.trans g5.i)
      rw [hlen1] at st
      refine .inl ⟨st, B5, ys, fs, g5, z5, h5, l5, ?_⟩
      show fs = (as.take (i + 1)).flatMap G
      rw [pf, List.take_length, List.take_add_one, ha, List.flatMap_append]
      simp [G]
  · have e : i = as.length := by omega
    subst e
    have st := w.stops H2 (g2.b.trans g2.i)
    rw [hlen] at st
    refine .inl ⟨st, ?_⟩
    exact q p xs es B2 H2 (by rw [pv, List.take_length]) (g1'.trans g2) (g1'.none_back r.ex r.dr hp) z2 h2 l2
theorem ev_ixLast {K : PySem.W.Frag} {ta tb : TE} {ds : List Dt} {d : Dt} (ha : EV D ta ρ (.tup (ds ++ [d]))) (hb : EV D tb ρ (.int (-1))) : EV D (tOp (rIxT K) ta tb) ρ d := ev_op ha hb (rd_of fun v w B H e hx hy Q q => by
  obtain ⟨a, xs, rfl, ha, hl⟩ := hx
  have len : xs.length = ds.length + 1 := by rw [hl.length, List.length_append]; rfl
  obtain ⟨u, h1, h2⟩ := hl.get' (i := ds.length) (d := d) (by simp)
  refine ⟨a, xs, -1, u, rfl, hy, SqT.of (e a _ ha), ?_, q u h2⟩
  unfold atI ixN
  rw [if_neg (by omega), if_pos (by omega)]
  show xs[((-1 : Int) + (xs.length : Int)).toNat]? = some u
  rw [show ((-1 : Int) + (xs.length : Int)).toNat = ds.length by omega]
  exact h1)
end
theorem intsD_snoc {A : List Int} {x : Int} : intsD (A ++ [x]) = intsD A ++ [Dt.int x] := List.map_append (f := Dt.int) (l₁ := A) (l₂ := [x])
theorem q_par {B0 H0 Bk B H : Hp} {σ : L2.St} {ta : TA} {i j : Nat} {d1 d2 : Dt} {tz : TS} {Dn : Ends} {D : Option Addr} {ρ : List Sl} (s : Sta D B0 H0 Bk ρ σ B H) (h : EA D ta ρ [d1, d2]) (k : ∀ σ' B' H', Sta D B0 H0 Bk ((ρ.set i (.dat d1)).set j (.dat d2)) σ' B' H' → tz Dn σ' H') : tSeq (tPar i j ta) tz Dn σ H :=
  h σ B H s.rl _ fun vs ds B2 H2 p g hvs => by
    subst p
    obtain ⟨x, r, rfl, hx, hr⟩ := hvs
    obtain ⟨y, r2, rfl, hy, hr2⟩ := hr
    cases (show r2 = [] from hr2)
    exact ⟨x, y, rfl, k _ B2 H2 (((s.go g).set hx).set hy)⟩
/-! ### lots by layers -/
def lastP (A : List Int) : Int := match A.getLast? with
  | none => 0
  | some x => x + 1
def rng (lo hi : Int) : List Int := (List.range (hi - lo).toNat).map fun i => lo + (i : Nat)
def layerS (n : Nat) (L : List (List Int)) : List (List Int) := L.flatMap fun A => (rng (lastP A) n).map fun x => A ++ [x]
def lays (n : Nat) : Nat → List (List Int)
  | 0 => [[]]
  | k + 1 => layerS n (lays n k)
def allLots (n : Nat) : List (List Int) := (List.range (n + 1)).flatMap (lays n)
def layFacts (n : Nat) : Bool := (List.range (n + 1)).all fun k => !(lays n k).isEmpty && (lays n k).all fun A => decide (A.length = k) && A.all fun x => decide (0 ≤ x) && decide (x < n)
theorem lay_facts : ∀ n, 1 ≤ n → n ≤ 5 → layFacts n = true ∧ lays n (n + 1) = [] ∧ (allLots n).length ≤ 32 ∧ ((List.range (n + 1)).all fun k => decide ((lays n k).length ≤ 32)) = true := by
  intro n h1 h2
  match n, h1, h2 with
  | 1, _, _ => decide +kernel
  | 2, _, _ => decide +kernel
  | 3, _, _ => decide +kernel
  | 4, _, _ => decide +kernel
  | 5, _, _ => decide +kernel
section
variable {P : Program} {w : World} {K : PySem.W.Frag} {mg : PySem.Str → Option Value} {base : Heap}
abbrev nm_check_table_worlds : List PySem.Str := [("worlds" : PySem.Str)]
abbrev ps_check_table_worlds : List PySem.Str := [("worlds" : PySem.Str)]
theorem sc_check_table_worlds : FnScope nm_check_table_worlds ps_check_table_worlds (defScope st_check_table_worlds) := ⟨rfl, rfl, rfl, by decide +kernel, rfl, by decide +kernel, by decide +kernel⟩
/- slots: 0:worlds -/
theorem ok_check_table_worlds (T : Tx K mg) : OkF P w K mg base CX0 "check_table_worlds" 3 ps_check_table_worlds (PF (fun n : Int => 1 ≤ n ∧ n ≤ 6) (fun n => [.int n]) (fun _ r => r = .non)) := by
  refine Df.ok T.d_check_table_worlds sc_check_table_worlds (fun _ _ _ _ _ _ us hl => match us, hl with | [_], _ => rfl) (pf_len fun _ => rfl) (fun cdv A outer s H vs Q E hr h => ?_)
  obtain ⟨n, B, hx, e, st, k⟩ := pf_open (N := nm_check_table_worlds) h
  refine ⟨_, PSs.nox (pss_one (ps_if (PW.pt (pw_or (pt_not (pt_val (pe_callO (ok_whole_number T) (hr.mono (by decide)) (pa_cons (pv 0) pa_nil)))) (pw_or1 (pt_not (pt_chain op_le op_le pe_int (pv 0) (pe_glob (v := .int 6) rfl T.TABLE_WORLDS_mg.choose_spec ⟨_, rfl⟩)))))) (pss_one ps_never) pss_nil)), ?_⟩
  refine s_if (b := false) st (et_to (et_or (et_not (et_B (ev_call (.int n) rfl (ea_one ev_var)))) fun _ => et_not (et_test (ev_chainI ev_int ev_var ev_int))) ?_) (fun z => nomatch z) fun _ B' H' st' => k _ _ B' H' rfl st'.gr rfl
  rw [decide_eq_true hx.1, decide_eq_true hx.2]
  rfl
abbrev nm_lot_or_none : List PySem.Str := [("lot" : PySem.Str), ("worlds" : PySem.Str)]
abbrev ps_lot_or_none : List PySem.Str := [("lot" : PySem.Str), ("worlds" : PySem.Str)]
theorem sc_lot_or_none : FnScope nm_lot_or_none ps_lot_or_none (defScope st_lot_or_none) := ⟨rfl, rfl, rfl, by decide +kernel, rfl, by decide +kernel, by decide +kernel⟩
/- slots: 0:lot 1:worlds -/
theorem ok_lot_or_none (T : Tx K mg) : OkF P w K mg base CX0 "lot_or_none" 4 ps_lot_or_none
    (PF (fun p : Dt × List Int × List Int × Int => LotIn p.2.2.2 p.1 p.2.1 p.2.2.1 ∧ 1 ≤ p.2.2.2 ∧ p.2.2.2 ≤ 12) (fun p => [p.1, .int p.2.2.2]) (fun p r => r = lotD p.2.2.1)) := by
  refine Df.ok T.d_lot_or_none sc_lot_or_none (fun _ _ _ _ _ _ us hl => match us, hl with | [_, _], _ => rfl) (pf_len fun _ => rfl) (fun cdv A outer s H vs Q E hr h => ?_)
  obtain ⟨⟨d, ns, A', n⟩, B, ⟨hl, hn1, hn2⟩, e, st, k⟩ := pf_open (N := nm_lot_or_none) h
  dsimp only at hl hn1 hn2 k st
  have nd : ns.Nodup := hl.perm.nodup_iff.mpr hl.lot.nodup
  have bd : ∀ x ∈ ns, 0 ≤ x ∧ x < n := fun x hx => hl.lot.bd x (hl.perm.mem_iff.mp hx)
  have hlen : ns.length ≤ 12 := by
    rw [hl.perm.length_eq]
    exact hl.lot.len12 hn2
  refine ⟨_, PSs.nox (pss_cons (ps_if (PW.pt (pw_or (pt_not (pt_val (pe_callO (ok_is_row T) (hr.mono (by decide)) (pa_cons (pv 0) pa_nil)))) (pw_or1 (pt_cmp (pc_notN (pe_callO (ok_first_stranger T) (hr.mono (by decide)) (pa_cons (pv 0) (pa_cons (pv 1) pa_nil)))))))) (pss_one (ps_ret pe_non)) pss_nil)
      (pss_one (ps_ret (pe_callTy (call_tuple_k (K := K)) (by rfl) T.b_tuple boot_tuple (pa_cons (pe_callB (cr_sorted_k (K := K)) (by rfl) T.b_sorted boot_sorted (pa_cons (pv 0) pa_nil)) pa_nil))))), ?_⟩
  refine q_noF st (b := false) (et_to (et_or (et_not (et_B (ev_call d hl.seq.row (ea_one ev_var)))) fun _ => et_test (ev_notN (x := .non) (EVP.imp (ev_call (d, intsD ns, n) ⟨hl.seq, fun x hx => ?_, by simp; omega⟩ (ea_cons ev_var (ea_one ev_var))) fun x e => e.trans (by rw [strange_none n ns [] 0 nd bd (by simp)]; rfl)))) ?_) rfl fun B1 H1 st1 => ?_
  · obtain ⟨i, _, rfl⟩ := List.mem_map.mp hx
    rfl
  · rcases hl.seq with z | z <;> rw [z] <;> rfl
  exact s_ret st1 (ev_tuple (EO.ev (eo_sortedA ev_var hl.seq hl.perm hl.lot.le))) k
abbrev nm_table_pair : List PySem.Str := [("pair" : PySem.Str), ("worlds" : PySem.Str), ("lot" : PySem.Str), ("chosen" : PySem.Str)]
abbrev ps_table_pair : List PySem.Str := [("pair" : PySem.Str), ("worlds" : PySem.Str)]
theorem sc_table_pair : FnScope nm_table_pair ps_table_pair (defScope st_table_pair) := ⟨rfl, rfl, rfl, by decide +kernel, rfl, by decide +kernel, by decide +kernel⟩
/- slots: 0:pair 1:worlds 2:lot 3:chosen -/
theorem ok_table_pair (T : Tx K mg) : OkF P w K mg base CX0 "table_pair" 5 ps_table_pair
    (PF (fun p : Dt × Case × Int => EntD p.2.2 p.1 p.2.1 ∧ (∀ x ∈ p.2.1.2, x ∈ p.2.1.1) ∧ 1 ≤ p.2.2 ∧ p.2.2 ≤ 12) (fun p => [p.1, .int p.2.2]) (fun p r => r = caseD p.2.1)) := by
  refine Df.ok T.d_table_pair sc_table_pair (fun _ _ _ _ _ _ us hl => match us, hl with | [_, _], _ => rfl) (pf_len fun _ => rfl) (fun cdv A outer s H vs Q E hr h => ?_)
  obtain ⟨⟨e0, c, n⟩, B, ⟨he, hsub, hn1, hn2⟩, e, st, k⟩ := pf_open (N := nm_table_pair) h
  dsimp only at he hsub hn1 hn2 k st
  obtain ⟨d1, d2, ns, ms, hs, hl1, hl2⟩ := he
  refine ⟨_, PSs.nox (pss_cons (ps_if (PW.pt (pw_or (pt_not (pt_val (pe_callO (ok_is_row T) (hr.mono (by decide)) (pa_cons (pv 0) pa_nil)))) (pw_or1 (pt_cmpR op_ne (pe_callB (call_len_k (K := K)) (by rfl) T.b_len boot_len (pa_cons (pv 0) pa_nil)) pe_int (nomark _))))) (pss_one (ps_ret pe_non)) pss_nil)
      (pss_cons (ps_par (i := 2) (j := 3) (by rfl) sc_table_pair.nd rfl rfl (by decide) rfl rfl (pa_cons (pe_callO (ok_lot_or_none T) (hr.mono (by decide)) (pa_cons (pe_ix (ix_seq_k (K := K)) (pv 0) pe_int (fun _ _ => rfl)) (pa_cons (pv 1) pa_nil))) (pa_cons (pe_callO (ok_lot_or_none T) (hr.mono (by decide)) (pa_cons (pe_ix (ix_seq_k (K := K)) (pv 0) pe_int (fun _ _ => rfl)) (pa_cons (pv 1) pa_nil))) pa_nil)) (by rfl))
      (pss_cons (ps_if (PW.pt (pw_or (pt_not (pt_truth_k (K := K) (pv 2) (by intro _; rfl))) (pw_or (pt_not (pt_truth_k (K := K) (pv 3) (by intro _; rfl))) (pw_or1 (pt_not (pt_val (pe_callO (ok_inside T) (hr.mono (by decide)) (pa_cons (pv 3) (pa_cons (pv 2) pa_nil))))))))) (pss_one (ps_ret pe_non)) pss_nil)
      (pss_one (ps_ret (pe_tup (pa_cons (pv 2) (pa_cons (pv 3) pa_nil)))))))), ?_⟩
  refine q_noF st (et_or (et_not (et_B (ev_call e0 hs.row (ea_one ev_var)))) fun _ => et_test (ev_neI (ev_lenS ev_var hs) ev_int)) (by rcases hs with z | z <;> rw [z] <;> rfl) fun B1 H1 st1 => ?_
  refine q_par st1 (ea_cons (EVP.imp (ev_call (d1, ns, c.1, n) ⟨hl1, hn1, hn2⟩ (ea_cons (ev_ixA (i := 0) ev_var hs ev_int rfl) (ea_one ev_var))) fun d z => z) (ea_one (EVP.imp (ev_call (d2, ms, c.2, n) ⟨hl2, hn1, hn2⟩ (ea_cons (ev_ixA (i := 1) ev_var hs ev_int rfl) (ea_one ev_var))) fun d z => z))) fun σ2 B2 H2 st2 => ?_
  have n1 : c.1 ≠ [] := hl1.ne
  have n2 : c.2 ≠ [] := hl2.ne
  refine q_noF st2 (et_or (et_not (et_truT (ev_var (i := 2)))) fun _ => et_or (et_not (et_truT (ev_var (i := 3)))) fun _ => et_not (et_B (ev_call (c.2, c.1) ?_ (ea_cons ev_var (ea_one ev_var))))) ?_ fun B3 H3 st3 => ?_
  · have := hl2.lot.len12 hn2
    show c.2.length ≤ 1000
    omega
  · have z : (c.2.all fun x => decide (x ∈ c.1)) = true := List.all_eq_true.mpr fun x hx => decide_eq_true (hsub x hx)
    dsimp only
    rw [z]
    cases q1 : c.1 with
    | nil => exact absurd q1 n1
    | cons _ _ =>
      cases q2 : c.2 with
      | nil => exact absurd q2 n2
      | cons _ _ => rfl
  · exact s_ret (P := fun d => d = caseD c) st3 (ev_tup (ea_cons (ev_var (i := 2)) (ea_one (ev_var (i := 3))))) k
abbrev nm_lot_list : List PySem.Str := [("worlds" : PySem.Str), ("most" : PySem.Str), ("found" : PySem.Str), ("layer" : PySem.Str), ("lot" : PySem.Str), ("x" : PySem.Str)]
abbrev ps_lot_list : List PySem.Str := [("worlds" : PySem.Str), ("most" : PySem.Str)]
theorem sc_lot_list : FnScope nm_lot_list ps_lot_list (defScope st_lot_list) := ⟨rfl, rfl, rfl, by decide +kernel, rfl, by decide +kernel, by decide +kernel⟩
/- slots: 0:worlds 1:most 2:found 3:layer 4:lot 5:x -/
theorem ok_lot_list (T : Tx K mg) : OkF P w K mg base CX0 "lot_list" 1 ps_lot_list
    (PF (fun n : Nat => 1 ≤ n ∧ n ≤ 5) (fun n => [.int (n : Int), .int (n : Int)]) (fun n r => r = .lst ((allLots n).map lotD))) := by
  refine Df.ok T.d_lot_list sc_lot_list (fun _ _ _ _ _ _ us hl => match us, hl with | [_, _], _ => rfl) (pf_len fun _ => rfl) (fun cdv A outer s H vs Q E hr h => ?_)
  obtain ⟨n, B, ⟨hn1, hn2⟩, e, st, k⟩ := pf_open (N := nm_lot_list) h
  refine ⟨_, PSs.nox (pss_cons (ps_set (i := 2) sc_lot_list.nd rfl (Or.inl rfl) (pe_lst pa_nil))
      (pss_cons (ps_set (i := 3) sc_lot_list.nd rfl (Or.inl rfl) (pe_lst (pa_cons (pe_tup pa_nil) pa_nil)))
      (pss_cons (ps_while PassesOwn.never (PW.pt (pw_and (pt_truth_k (K := K) (pv 3) (by intro _; rfl)) (pw_and1 (pt_cmpR op_le (pe_callB (call_len_k (K := K)) (by rfl) T.b_len boot_len (pa_cons (pe_ix (ix_list_k (K := K)) (pv 3) pe_int (fun _ _ => rfl)) pa_nil)) (pv 1) (nomark _))))) (pss_cons (ps_expr (pe_bm PySem.F.plainAttrs_list PySem.F.slot_list_extend PySem.F.type_list_extend mt_extend (pv 2) (pa_cons (pe_callTy (call_list_k (K := K)) (by rfl) T.b_list boot_list (pa_cons (pv 3) pa_nil)) pa_nil)))
      (pss_one (ps_setLc2 (i := 3) (vs1 := [5]) (own := [("lot", 4), ("x", 5)]) rfl sc_lot_list.nd rfl rfl (sw_true rfl rfl rfl (by decide +kernel)) (pi_seq_k (K := K) (pv 3)) (blkOk_by (N := nm_lot_list) (sc := (defScope st_lot_list)) (by decide +kernel)) (by decide) (fun _ _ _ _ _ => (pg_name (i := 4) sc_lot_list.nd rfl (Or.inl rfl))) (fun _ _ _ _ _ => pts_nil) (fun _ _ _ _ _ => (pi_range2 (by rfl) T.b_range (pa_cons (pe_ifExp (pt_truth_k (K := K) (pv 4) (by intro _; rfl)) (pe_op op_add (pe_ix (ix_tup_k (K := K)) (pv 4) (pe_un un_neg pe_int) (fun _ _ => rfl)) pe_int) pe_int) (pa_cons (pv 0) pa_nil)))) (fun _ _ _ _ _ => (pg_name (i := 5) sc_lot_list.nd rfl (Or.inl rfl))) (fun _ _ _ _ _ => pts_nil) (fun _ _ _ _ _ => (pe_op (op_catT_k (K := K)) (pv 4) (pe_tup (pa_cons (pv 5) pa_nil))))))))
      (pss_one (ps_ret (pv 2)))))), ?_⟩
  refine q_new st (eo_lst ea_nil) e fun σ1 B1 H1 st1 => ?_
  refine q_setE st1 (EO.ev (eo_lst (ea_one (ev_tup ea_nil)))) fun σ2 B2 H2 st2 => ?_
  obtain ⟨lf, le, ll, lb⟩ := lay_facts n hn1 hn2
  have lk : ∀ k, k ≤ n → (lays n k).length ≤ 32 := fun k hk => of_decide_eq_true (List.all_eq_true.mp lb k (List.mem_range.mpr (by omega)))
  have lA : ∀ k, k ≤ n → (lays n k) ≠ [] ∧ ∀ A ∈ lays n k, A.length = k ∧ ∀ x ∈ A, 0 ≤ x ∧ x < n := fun k hk => by
    have z := List.all_eq_true.mp lf k (List.mem_range.mpr (by omega))
    rw [Bool.and_eq_true] at z
    refine ⟨fun q => ?_, fun A hA => ?_⟩
    · rw [q] at z
      cases z.1
    · have y := List.all_eq_true.mp z.2 A hA
      rw [Bool.and_eq_true] at y
      refine ⟨of_decide_eq_true y.1, fun x hx => ?_⟩
      have u := List.all_eq_true.mp y.2 x hx
      rw [Bool.and_eq_true] at u
      exact ⟨of_decide_eq_true u.1, of_decide_eq_true u.2⟩
  refine q_while (fun (k : Nat) ρ' => ρ' = [.dat (.int (n : Int)), .dat (.int (n : Int)), .own (((List.range k).flatMap (lays n)).map lotD), .dat (.lst ((lays n k).map lotD)), .any, .any] ∧ k ≤ n + 1 ∧ ((List.range k).flatMap (lays n)).length ≤ 32 * k)
    (fun k => n + 1 - k) (fun k => decide (k ≤ n)) 0 st2 ⟨rfl, by omega, Nat.zero_le _⟩ ?_ ?_ ?_
  · rintro k ρ' ⟨rfl, hk, hz⟩
    by_cases h : k ≤ n
    · obtain ⟨ne, hA⟩ := lA k h
      rw [decide_eq_true h]
      cases q : lays n k with
      | nil => exact absurd q ne
      | cons A0 L =>
        have l0 := (hA A0 (by rw [q]; exact List.mem_cons_self)).1
        refine et_to (et_and (et_truL (ev_var (i := 3))) fun _ => et_test (ev_le (ev_lenS (ev_ixL (i := 0) (d := lotD A0) (ev_var (i := 3)) ev_int rfl) (.inr rfl)) (ev_var (i := 1)))) ?_
        rw [decide_eq_true (by rw [List.length_map]; omega)]
        rfl
    · have ek : k = n + 1 := by omega
      subst ek
      rw [le, decide_eq_false h]
      exact et_to (et_and (b := true) (et_truL (ev_var (i := 3))) fun z => absurd z (by simp)) rfl
  · rintro k ρ' σ' B4 H4 ⟨rfl, hk, hz⟩ hc st4 N hN
    have h : k ≤ n := of_decide_eq_true hc
    obtain ⟨ne, hA⟩ := lA k h
    have lkk := lk k h
    refine q_ext st4 rfl (EO.ev (eo_list (ev_var (i := 3)) (.inl rfl))) (by rw [List.length_map, List.length_map]; omega) fun B5 H5 st5 => ?_
    have e1 : (List.range (k + 1)).flatMap (lays n) = (List.range k).flatMap (lays n) ++ lays n k := by
      rw [List.range_succ, List.flatMap_append]
      simp
    have e2 : (((lays n k).flatMap fun A => (rng (lastP A) n).map fun x => lotD (A ++ [x])) : List Dt) = (lays n (k + 1)).map lotD := by
      show _ = ((lays n k).flatMap fun A => (rng (lastP A) n).map fun x => A ++ [x]).map lotD
      rw [List.map_flatMap]
      congr 1
      funext A
      rw [List.map_map]
      rfl
    have e3 : (lays n (k + 1)).length ≤ 32 := by
      by_cases hk1 : k + 1 ≤ n
      · exact lk _ hk1
      · have : k = n := by omega
        subst this
        rw [le]
        exact Nat.zero_le _
    refine s_setE st5 (EO.ev (EO.to (eo_lc2 lotD (fun A => [(4, lotD A)]) (lays n k) (ei_seqA (ev_var (i := 3)) (.inl rfl)) (fun _ _ => eg_name) (by intro a _ j hj; simp at hj; subst hj; decide)
      (fun _ x => Dt.int x) (fun _ x => [(5, .int x)]) (fun A => rng (lastP A) n) (fun A hA' => ?_) (fun _ _ _ _ => eg_name) (by intro a _ b _ j hj; simpa using hj) (fun A x => lotD (A ++ [x]))
      (fun A hA' x hx => EV.to (ev_catT (ev_var (i := 4)) (ev_tup (ea_one (ev_var (i := 5)))) ?_) (congrArg Dt.tup intsD_snoc.symm)) ?_) e2)) fun σ6 B6 H6 st6 => ?_
    · have hb := hA A hA'
      refine ei_to (ei_rng2 (a := lastP A) (b := (n : Int)) ?_ (ev_var (i := 0)) ?_ (by omega)) rangeD_ints
      · rcases List.eq_nil_or_concat A with rfl | ⟨L, x, rfl⟩
        · exact ev_if (b := false) (et_to (et_truT (ev_var (i := 4))) rfl) (fun z => nomatch z) (fun _ => ev_int)
        · have el : lastP (L.concat x) = x + 1 := by
            unfold lastP
            rw [List.concat_eq_append, List.getLast?_concat]
          have es : lotD (L.concat x) = .tup (intsD L ++ [.int x]) := by
            rw [List.concat_eq_append]
            exact congrArg Dt.tup List.map_append
          rw [el, es]
          exact ev_if (b := true) (et_to (et_truT (ev_var (i := 4))) (by cases L <;> rfl)) (fun _ => ev_add (ev_ixLast (ev_var (i := 4)) (ev_neg ev_int)) ev_int) (fun z => nomatch z)
      · rcases List.eq_nil_or_concat A with rfl | ⟨L, x, rfl⟩
        · exact ⟨by decide, by decide⟩
        · have el : lastP (L.concat x) = x + 1 := by
            unfold lastP
            rw [List.concat_eq_append, List.getLast?_concat]
          have := hb.2 x (by simp)
          rw [el]
          omega
    · have := (hA A hA').1
      rw [List.length_map, this]
      show k + 1 ≤ _
      omega
    · rw [e2, List.length_map]
      omega
    · refine hN (k + 1) _ σ6 B6 H6 ⟨rfl, by omega, ?_⟩ (by omega) ?_
      · rw [e1, List.length_append]
        omega
      · rw [e1, List.map_append]
        exact st6
  · rintro k ρ' σ' B4 H4 ⟨rfl, hk, hz⟩ hc st4
    have h : ¬ k ≤ n := of_decide_eq_false hc
    have ek : k = n + 1 := by omega
    subst ek
    obtain ⟨B5, st5⟩ := st4.know (i := 2) rfl
    exact s_ret st5 (ev_var (i := 2)) fun v d B6 H6 p g hv => k v d B6 H6 p g hv
end
end K37
/-! K37U: the class Table, told_of -/
namespace K37
open PySem PyProof.Rows L2
open Evl (Ex)
section
variable {D : Option Addr} {B0 H0 Bk B H : Hp} {ρ : List Sl} {σ : L2.St} {te ta tb : TE} {tz : TS} {Dn : Ends} {P : Dt → Prop} {d : Dt}
/-- no other slot holds the object at a -/
def OnlyAt (ρ : List Sl) (i : Nat) (a : Addr) : Prop := ∀ (j : Nat) b ψ, j ≠ i → ρ[j]? = some (.obj b ψ) → b ≠ a
theorem Sta.setObj (s : Sta D B0 H0 Bk ρ σ B H) {i : Nat} {p : Addr} {φ : Hp → HO → Prop} {u : HO} (z : B p = none) (hx : H p = some u) (nl : ∀ xs, u ≠ .lst xs) (hp : φ B u) (mo : ∀ B B' u, Ex B B' → φ B u → φ B' u) (nd : some p ≠ D) :
    Sta D B0 H0 Bk (ρ.set i (.obj p φ)) (σ.set i (some (.ref p))) B H := by
  refine ⟨s.gr, ⟨s.rl.ex, by rw [List.length_set, List.length_set]; exact s.rl.len, fun j => ?_, s.rl.dr⟩, s.kb, fun j ds a q1 q2 => ?_, fun j k ds es a ne q1 q2 q3 => ?_⟩
  · by_cases q : i = j
    · subst q
      by_cases l : i < ρ.length
      · rw [List.getElem?_set_self l, List.getElem?_set_self (by rw [s.rl.len]; exact l)]
        exact ⟨rfl, z, ⟨u, hx, nl, hp⟩, mo, nd⟩
      · rw [List.getElem?_eq_none (by simpa using l)]
        trivial
    · rw [List.getElem?_set_ne q, List.getElem?_set_ne q]
      exact s.rl.at_ j
  · rcases set_get q1 with ⟨_, z⟩ | ⟨ne, z⟩
    · cases z
    · rw [List.getElem?_set_ne ne] at q2
      exact s.fr j ds a z q2
  · rcases set_get q1 with ⟨_, z⟩ | ⟨n1, z1⟩
    · cases z
    rcases set_get q2 with ⟨_, z⟩ | ⟨n2, z2⟩
    · cases z
    rw [List.getElem?_set_ne n1] at q3
    rw [List.getElem?_set_ne n2]
    exact s.dis j k ds es a ne z1 z2 q3
theorem Sta.putObj (s : Sta D B0 H0 Bk ρ σ B H) {i : Nat} {a : Addr} {φ φ' : Hp → HO → Prop} {u : HO} (q : ρ[i]? = some (.obj a φ)) (n : H0 a = none) (only : OnlyAt ρ i a) (nl : ∀ xs, u ≠ .lst xs) (hp : φ' B u) (mo : ∀ B B' u, Ex B B' → φ' B u → φ' B' u) :
    Sta D B0 H0 Bk (ρ.set i (.obj a φ')) σ B (upd H a u) := by
  obtain ⟨e1, z, ⟨u0, hx, nl0, hp0⟩, mo0, nd⟩ := s.rl.obj q
  have g := s.gr.mut (o := u) n z
  refine ⟨g, ⟨g.i, by rw [List.length_set]; exact s.rl.len, fun j => ?_, fun b e => ?_⟩, s.kb, fun j fs b q1 q3 => ?_, fun j k fs gs b ne q1 q3 q4 => ?_⟩
  · by_cases ij : i = j
    · subst ij
      have l : i < ρ.length := (List.getElem?_eq_some_iff.mp q).1
      rw [List.getElem?_set_self l, e1]
      exact ⟨rfl, z, ⟨u, upd_same, nl, hp⟩, mo, nd⟩
    · rw [List.getElem?_set_ne ij]
      have r := s.rl.at_ j
      cases e : ρ[j]? with
      | none => trivial
      | some sl =>
        rw [e] at r
        cases sl with
        | any => trivial
        | dat d => exact r
        | drw => exact r
        | val v => exact r
        | sq b φ => exact r
        | obj b ψ =>
          obtain ⟨r1, r2, ⟨u1, r3, r4, r6⟩, r7, r5⟩ := r
          exact ⟨r1, r2, ⟨u1, by rw [upd_ne (only j b ψ (fun e' => ij e'.symm) e)]; exact r3, r4, r6⟩, r7, r5⟩
        | own fs =>
          obtain ⟨b, zs, r1, r2, r3, r4, r5⟩ := r
          exact ⟨b, zs, r1, r2, by rw [upd_ne (fun e' => by rw [e', hx] at r3; exact nl0 _ (Option.some.inj r3))]; exact r3, r4, r5⟩
  · obtain ⟨z2, ns, h3⟩ := s.rl.dr b e
    have ab : b ≠ a := fun e' => nd (by rw [← e', e])
    exact ⟨z2, ns, by rw [upd_ne ab]; exact h3⟩
  · rcases set_get q1 with ⟨_, e⟩ | ⟨_, z1⟩
    · cases e
    · exact s.fr j fs b z1 q3
  · rcases set_get q1 with ⟨_, e⟩ | ⟨_, z1⟩
    · cases e
    · rcases set_get q3 with ⟨_, e⟩ | ⟨_, z2⟩
      · cases e
      · exact s.dis j k fs gs b ne z1 z2 q4
/-- one's own object becomes known -/
theorem Sta.knowObj (s : Sta D B0 H0 Bk ρ σ B H) {i : Nat} {a : Addr} {φ : Hp → HO → Prop} (q : ρ[i]? = some (.obj a φ)) (n : H0 a = none) (only : OnlyAt ρ i a) :
    ∃ B' u, φ B' u ∧ B' a = some u ∧ Sta D B0 H0 Bk (ρ.set i (.val (.ref a))) σ B' H := by
  obtain ⟨e1, z, ⟨u, hx, nl0, hp0⟩, mo0, nd⟩ := s.rl.obj q
  have g := s.gr.know (o := u) n z hx
  have eb : Ex B (upd B a u) := Ex.new z
  refine ⟨upd B a u, u, mo0 _ _ _ eb hp0, upd_same, g, ⟨g.i, by rw [List.length_set]; exact s.rl.len, fun j => ?_, fun b e => ?_⟩, s.kb.trans eb, fun j fs b q1 q3 => ?_, fun j k fs gs b ne q1 q3 q4 => ?_⟩
  · by_cases ij : i = j
    · subst ij
      have l : i < ρ.length := (List.getElem?_eq_some_iff.mp q).1
      rw [List.getElem?_set_self l, e1]
      exact rfl
    · rw [List.getElem?_set_ne ij]
      have r := s.rl.at_ j
      cases e : ρ[j]? with
      | none => trivial
      | some sl =>
        rw [e] at r
        cases sl with
        | any => trivial
        | dat d =>
          obtain ⟨v, r1, r2⟩ := r
          exact ⟨v, r1, r2.mono eb⟩
        | drw => exact r
        | val v => exact r
        | sq b φ => exact ⟨r.1, fun H' e' => r.2 H' (eb.trans e')⟩
        | obj b ψ =>
          obtain ⟨r1, r2, ⟨u1, r3, r4, r6⟩, r7, r5⟩ := r
          exact ⟨r1, by rw [upd_ne (only j b ψ (fun e' => ij e'.symm) e)]; exact r2, ⟨u1, r3, r4, r7 _ _ _ eb r6⟩, r7, r5⟩
        | own fs =>
          obtain ⟨b, zs, r1, r2, r3, r4, r5⟩ := r
          exact ⟨b, zs, r1, by rw [upd_ne (fun e' => by rw [e', hx] at r3; exact nl0 _ (Option.some.inj r3))]; exact r2, r3, r4.mono eb, r5⟩
  · obtain ⟨z2, ns, h3⟩ := s.rl.dr b e
    have ab : b ≠ a := fun e' => nd (by rw [← e', e])
    exact ⟨by rw [upd_ne ab]; exact z2, ns, h3⟩
  · rcases set_get q1 with ⟨_, e⟩ | ⟨_, z1⟩
    · cases e
    · exact s.fr j fs b z1 q3
  · rcases set_get q1 with ⟨_, e⟩ | ⟨_, z1⟩
    · cases e
    · rcases set_get q3 with ⟨_, e⟩ | ⟨_, z2⟩
      · cases e
      · exact s.dis j k fs gs b ne z1 z2 q4
theorem only_of {i : Nat} {a : Addr} (h : (ρ.set i .any).any isObjS = false) : OnlyAt ρ i a := fun j b ψ ne e => by
  have e2 : (ρ.set i .any)[j]? = some (.obj b ψ) := by
    rw [List.getElem?_set_ne (fun z => ne z.symm)]
    exact e
  exact nob_of h j b ψ e2
/-- the dict of these cases: lots to answers -/
def keyK (A : List Int) : List L2.Key := A.map Sum.inl
theorem keyK_v {A : List Int} : (keyK A).map kV = A.map V.int := by
  unfold keyK
  rw [List.map_map]
  rfl
theorem keyK_inj {A B : List Int} (h : keyK A = keyK B) : A = B := by
  have := congrArg (List.map kV) h
  rw [keyK_v, keyK_v] at this
  exact (List.map_inj_right (fun x y e => V.int.inj e)).mp this
def tdict (cs : List Case) : Hp → HO → Prop := fun B u => ∃ kvs, u = .dT kvs ∧ kvs.length = cs.length ∧ (∀ A, A ∉ cs.map (·.1) → valV kvs (keyK A) = none) ∧ ∀ c ∈ cs, ∃ t, valV kvs (keyK c.1) = some (.ref t) ∧ B t = some (.tup (c.2.map V.int))
theorem tdict_mono {cs : List Case} (B B' : Hp) (u : HO) (e : Ex B B') (h : tdict cs B u) : tdict cs B' u := by
  obtain ⟨kvs, h1, h2, h3, h4⟩ := h
  exact ⟨kvs, h1, h2, h3, fun c hc => by
    obtain ⟨t, q1, q2⟩ := h4 c hc
    exact ⟨t, q1, e _ _ q2⟩⟩
theorem q_dnew {i : Nat} (s : Sta D B0 H0 Bk ρ σ B H) (e0 : Ex B0 H0) (hd : ∀ a, D = some a → Dr a B0 H0) (k : ∀ p σ' B' H', H0 p = none → Sta D B0 H0 Bk (ρ.set i (.obj p (tdict []))) σ' B' H' → tz Dn σ' H') : tSeq (tAsg tDNewT (gName i)) tz Dn σ H := by
  intro p hp
  have z := ex_none s.rl.ex hp
  have nd : some p ≠ D := fun e => by
    obtain ⟨_, ns, h⟩ := s.rl.dr p e.symm
    rw [h] at hp
    cases hp
  have s2 := s.go (Gr.newO (o := .dT []) s.rl.ex hp)
  exact k p _ B _ (s.gr.none_back e0 hd hp) (s2.setObj z upd_same (fun _ => nofun) ⟨[], rfl, rfl, fun _ _ => rfl, fun c hc => by cases hc⟩ tdict_mono nd)
theorem has_lot {A : List Int} {v : V} {B : Hp} (h : Has (lotD A) v B) : ∃ b, v = .ref b ∧ B b = some (.tup (A.map V.int)) := by
  obtain ⟨b, xs, rfl, hb, hl⟩ := h
  rw [hasL_ints.mp hl] at hb
  exact ⟨b, rfl, hb⟩
theorem lot_has {A : List Int} {b : Addr} {B : Hp} (h : B b = some (.tup (A.map V.int))) : Has (lotD A) (.ref b) B := ⟨b, _, rfl, h, hasL_ints.mpr rfl⟩
theorem et_din {i : Nat} {a : Addr} {cs : List Case} {A : List Int} (hi : ρ[i]? = some (.obj a (tdict cs))) (h : EV D te ρ (lotD A)) (hA : A ∉ cs.map (·.1)) : EV D (tDIn te (tVar i)) ρ (.bl false) := fun σ B H l Q q => h σ B H l _ fun v d' B1 H1 pd g1 hv => by
  subst pd
  obtain ⟨e1, z, ⟨u, hx, nl, kvs, rfl, h2, h3, h4⟩, mo, nd⟩ := (l.gr g1).obj hi
  obtain ⟨b, rfl, hb⟩ := has_lot hv
  refine ⟨.ref a, e1, a, none, rfl, ?_, q _ _ B1 H1 rfl g1 rfl⟩
  have := DGet.t (k := keyK A) hx (by rw [keyK_v]; exact g1.i _ _ hb)
  rw [h3 A hA] at this
  exact this
theorem ev_dgetT {i : Nat} {a : Addr} {cs : List Case} {c : Case} (hi : ρ[i]? = some (.obj a (tdict cs))) (h : EV D te ρ (lotD c.1)) (hc : c ∈ cs) : EV D (tDGet (tVar i) te) ρ (lotD c.2) := fun σ B H l Q q => by
  obtain ⟨e0, _⟩ := l.obj hi
  refine ⟨.ref a, e0, h σ B H l _ fun v d' B1 H1 pd g1 hv => ?_⟩
  subst pd
  obtain ⟨e1, z, ⟨u, hx, nl, kvs, rfl, h2, h3, h4⟩, mo, nd⟩ := (l.gr g1).obj hi
  obtain ⟨b, rfl, hb⟩ := has_lot hv
  obtain ⟨t, q1, q2⟩ := h4 c hc
  have := DGet.t (k := keyK c.1) hx (by rw [keyK_v]; exact g1.i _ _ hb)
  rw [q1] at this
  exact ⟨a, .ref t, rfl, this, q _ _ B1 H1 rfl g1 (lot_has q2)⟩
theorem s_dput {i : Nat} {a : Addr} {cs : List Case} {c : Case} (s : Sta D B0 H0 Bk ρ σ B H) (hi : ρ[i]? = some (.obj a (tdict cs))) (n : H0 a = none) (only : OnlyAt ρ i a) (hk : EV D ta ρ (lotD c.1)) (hv : EV D te ρ (lotD c.2)) (hA : c.1 ∉ cs.map (·.1)) (hz : cs.length < 1000)
    (k : ∀ B' H', Sta D B0 H0 Bk (ρ.set i (.obj a (tdict (cs ++ [c])))) σ B' H' → Dn.nx σ H') : sDPut (tVar i) ta te Dn σ H := hv σ B H s.rl _ fun v d1 B1 H1 pd g1 hv1 => by
  subst pd
  have s1 := s.go g1
  obtain ⟨e0, _⟩ := s1.rl.obj hi
  refine ⟨.ref a, e0, hk σ B1 H1 s1.rl _ fun y d2 B2 H2 pd g2 hk2 => ?_⟩
  subst pd
  have s2 := s1.go g2
  obtain ⟨e1, z, ⟨u, hx, nl, kvs, rfl, h2, h3, h4⟩, mo, nd⟩ := s2.rl.obj hi
  obtain ⟨b, rfl, hb⟩ := has_lot hk2
  obtain ⟨t, rfl, ht⟩ := has_lot (hv1.mono g2.b)
  refine ⟨a, _, rfl, DPut.t (k := keyK c.1) hx (by rw [keyK_v]; exact g2.i _ _ hb) (Nat.lt_of_lt_of_le (by rw [h2]; exact hz) (by decide)), k B2 _ (s2.putObj hi n only (fun _ => nofun) ⟨_, rfl, ?_, fun A hA' => ?_, fun c' hc' => ?_⟩ tdict_mono)⟩
  · rw [putK_new _ (h3 _ hA), List.length_append, h2, List.length_append]
    rfl
  · rw [valV_put]
    rw [List.map_append] at hA'
    have hA2 := fun e => hA' (List.mem_append.mpr e)
    rw [if_neg (fun e => hA2 (.inr (by rw [keyK_inj e]; exact List.mem_cons_self))), h3 A (fun e => hA2 (.inl e))]
  · rw [valV_put]
    rcases List.mem_append.mp hc' with e | e
    · obtain ⟨t', q1, q2⟩ := h4 c' e
      rw [if_neg (fun e' => hA (by rw [← keyK_inj e']; exact List.mem_map_of_mem e))]
      exact ⟨t', q1, q2⟩
    · have e' : c' = c := by simpa using e
      subst e'
      rw [if_pos rfl]
      exact ⟨t, rfl, ht⟩
theorem ev_lenDT {i : Nat} {a : Addr} {cs : List Case} (hi : ρ[i]? = some (.obj a (tdict cs))) : EV D (tCB rLenT (tCons (tVar i) tNil)) ρ (.int (cs.length : Int)) := fun σ B H l Q q => by
  obtain ⟨e1, z, ⟨u, hx, nl, kvs, rfl, h2, h3, h4⟩, mo, nd⟩ := l.obj hi
  refine ⟨.ref a, e1, a, kvs, rfl, hx, ?_⟩
  rw [h2]
  exact q _ _ B H rfl (Gr.refl l.ex) rfl
theorem Fst.know {x C dx a : Addr} {fs : List (PySem.Str × V)} {i : Nat} {φ : Hp → HO → Prop} (s : Fst x C dx fs B0 H0 ρ σ B H) (q : ρ[i]? = some (.obj a φ)) (n : H0 a = none) (only : OnlyAt ρ i a) :
    ∃ B' u, φ B' u ∧ B' a = some u ∧ Ex B B' ∧ Fst x C dx fs B0 H0 (ρ.set i (.val (.ref a))) σ B' H := by
  obtain ⟨e1, z, ⟨u, hx, nl0, hp0⟩, mo0, nd⟩ := s.rl.obj q
  have ne : a ≠ x := s.nob i a φ q
  have g := s.gr.know (o := u) (by rw [del_ne ne]; exact n) z hx
  have eb : Ex B (upd B a u) := Ex.new z
  refine ⟨upd B a u, u, mo0 _ _ _ eb hp0, upd_same, eb, g, ⟨g.i, by rw [List.length_set]; exact s.rl.len, fun j => ?_, fun _ e => nomatch e⟩, by rw [upd_ne ne.symm]; exact s.bx, s.hx, fun j b ψ e => ?_⟩
  · by_cases ij : i = j
    · subst ij
      have l : i < ρ.length := (List.getElem?_eq_some_iff.mp q).1
      rw [List.getElem?_set_self l, e1]
      exact rfl
    · rw [List.getElem?_set_ne ij]
      have r := s.rl.at_ j
      cases e : ρ[j]? with
      | none => trivial
      | some sl =>
        rw [e] at r
        cases sl with
        | any => trivial
        | dat d =>
          obtain ⟨v, r1, r2⟩ := r
          exact ⟨v, r1, r2.mono eb⟩
        | drw => exact r
        | val v => exact r
        | sq b φ => exact ⟨r.1, fun H' e' => r.2 H' (eb.trans e')⟩
        | obj b ψ =>
          obtain ⟨r1, r2, ⟨u1, r3, r4, r6⟩, r7, r5⟩ := r
          exact ⟨r1, by rw [upd_ne (only j b ψ (fun e' => ij e'.symm) e)]; exact r2, ⟨u1, r3, r4, r7 _ _ _ eb r6⟩, r7, r5⟩
        | own fs =>
          obtain ⟨b, zs, r1, r2, r3, r4, r5⟩ := r
          exact ⟨b, zs, r1, by rw [upd_ne (fun e' => by rw [e', hx] at r3; exact nl0 _ (Option.some.inj r3))]; exact r2, r3, r4.mono eb, r5⟩
  · rcases set_get e with ⟨_, e⟩ | ⟨_, z1⟩
    · cases e
    · exact s.nob j b ψ z1
/-- a field whose value is a name's -/
theorem f_fldV {a C dx : Addr} {fs : List (PySem.Str × V)} {K : PySem.W.Frag} {f : PySem.Str} {i j : Nat} {v : V} (s : Fst a C dx fs B0 H0 ρ σ B H) (hi : ρ[i]? = some (.val (.ref a))) (hj : ρ[j]? = some (.val v))
    (hc : Cls K C) (hn : NoAttr K C f) (hl : fs.length < 1000) (k : ∀ H', Fst a C dx (putF f v fs) B0 H0 ρ σ B H' → Dn.nx σ H') : sFld K (tVar i) (tVar j) f Dn σ H :=
  ⟨v, s.rl.val hj, .ref a, s.rl.val hi, a, C, dx, fs, rfl, s.hx, hc, hn, hl, k _ ⟨s.gr.mut del_self s.bx, rl_upd s.nob s.rl s.bx s.hx, s.bx, upd_same, s.nob⟩⟩
end
theorem lots_nodup : ∀ n, 1 ≤ n → n ≤ 5 → (allLots n).Nodup := by
  intro n h1 h2
  match n, h1, h2 with
  | 1, _, _ => decide +kernel
  | 2, _, _ => decide +kernel
  | 3, _, _ => decide +kernel
  | 4, _, _ => decide +kernel
  | 5, _, _ => decide +kernel
section
variable {P : Program} {w : World} {K : PySem.W.Frag} {mg : PySem.Str → Option Value} {base : Heap}
abbrev TbC (K : PySem.W.Frag) : Addr := He.ga K "Table"
abbrev tblD (K : PySem.W.Frag) (n : Int) (cs : List Case) : Dt := .tbl (TbC K) n (casesT cs) cs
def tblPost : Nat × Dt × List (Dt × Case) → List (PySem.Str × V) → Hp → Prop := fun p fs B => fs.lookup ("worlds" : PySem.Str) = some (.int (p.1 : Int)) ∧ (∃ v, fs.lookup ("pairs" : PySem.Str) = some v ∧ Has (casesT (p.2.2.map (·.2))) v B) ∧
  (∃ b u, fs.lookup ("_told" : PySem.Str) = some (.ref b) ∧ B b = some u ∧ tdict (p.2.2.map (·.2)) B u) ∧ fs.lookup ("answer" : PySem.Str) = none
def tblPre : Nat × Dt × List (Dt × Case) → Prop := fun p => 1 ≤ p.1 ∧ p.1 ≤ 5 ∧ ToldIn (p.1 : Int) p.2.1 p.2.2 ∧ p.2.2.map (·.2.1) = (allLots p.1).drop 1
abbrev nm_Table___init__ : List PySem.Str := [("self" : PySem.Str), ("worlds" : PySem.Str), ("answers" : PySem.Str), ("told" : PySem.Str), ("place" : PySem.Str), ("pair" : PySem.Str), ("found" : PySem.Str), ("lots" : PySem.Str), ("x" : PySem.Str)]
abbrev ps_Table___init__ : List PySem.Str := [("self" : PySem.Str), ("worlds" : PySem.Str), ("answers" : PySem.Str)]
theorem sc_Table___init__ : FnScope nm_Table___init__ ps_Table___init__ (defScope st_Table___init__) := ⟨rfl, rfl, rfl, by decide +kernel, rfl, by decide +kernel, by decide +kernel⟩
/- slots: 0:self 1:worlds 2:answers 3:told 4:place 5:pair 6:found 7:lots 8:x -/
theorem ok_Table___init__ (T : Tx K mg) : OkI P w K mg base CX0 "Table" 6 ps_Table___init__ (PO (TbC K) tblPre (fun p => [.int (p.1 : Int), p.2.1]) tblPost) := by
  refine ⟨Dm.ok T.d_table_init sc_Table___init__ (fun _ _ _ _ _ _ us hl => match us, hl with | [_, _, _], _ => rfl) (po_len fun _ => rfl) (fun cdv A outer s H vs Q E hr h => ?_), T.m_table, T.g_table⟩
  obtain ⟨⟨n, e0, xs⟩, B, a, dx, ⟨hn1, hn2, hin, hlots⟩, e, bz, hx, st, k⟩ := po_open (N := nm_Table___init__) h
  dsimp only at hn1 hn2 hin hlots k st
  have hN1 : 1 ≤ (n : Int) := by omega
  have hN2 : (n : Int) ≤ 12 := by omega
  have few := hin.few
  have llen : (xs.map (·.2.1)).length = (allLots n).length - 1 := by rw [hlots, List.length_drop]
  rw [List.length_map] at llen
  have nd : (xs.map (·.2.1)).Nodup := by
    rw [hlots]
    exact (lots_nodup n hn1 hn2).sublist (List.drop_sublist _ _)
  refine ⟨_, PSs.nox (pss_cons (ps_expr (pe_callO (ok_check_table_worlds T) (hr.mono (by decide)) (pa_cons (pv 1) pa_nil)))
      (pss_cons (ps_if (pt_not (pt_val (pe_callO (ok_is_row T) (hr.mono (by decide)) (pa_cons (pv 2) pa_nil)))) (pss_one ps_never) pss_nil)
      (pss_cons (ps_set (i := 3) sc_Table___init__.nd rfl (Or.inr rfl) pe_dnewT)
      (pss_cons (ps_for PassesOwn.never rfl (pi_enum_k (K := K) T.b_enumerate (pa_cons (pv 2) pa_nil)) (pg_tup_k (K := K) (n := 2) rfl (pgs_cons (pg_name (i := 4) sc_Table___init__.nd rfl (Or.inl rfl)) (pgs_cons (pg_name (i := 5) sc_Table___init__.nd rfl (Or.inl rfl)) pgs_nil))) (pss_cons (ps_set (i := 6) sc_Table___init__.nd rfl (Or.inl rfl) (pe_callO (ok_table_pair T) (hr.mono (by decide)) (pa_cons (pv 5) (pa_cons (pv 1) pa_nil))))
      (pss_cons (ps_if (PW.pt (pw_or (pt_cmp (pc_isN (pv 6))) (pw_or1 (pt_cmp (pc_din (hu_of hr) (pe_ix (ix_tup_k (K := K)) (pv 6) pe_int (fun _ _ => rfl)) (pv 3)))))) (pss_one ps_never) pss_nil)
      (pss_one (ps_dput (hu_of hr) (pv 3) (pe_ix (ix_tup_k (K := K)) (pv 6) pe_int (fun _ _ => rfl)) (pe_ix (ix_tup_k (K := K)) (pv 6) pe_int (fun _ _ => rfl)) rfl)))))
      (pss_cons (ps_set (i := 7) sc_Table___init__.nd rfl (Or.inl rfl) (pe_slice (sl_list_k (K := K)) (pe_callO (ok_lot_list T) (hr.mono (by decide)) (pa_cons (pv 1) (pa_cons (pv 1) pa_nil))) (po_some pe_int) po_none))
      (pss_cons (ps_if (pt_cmpR op_lt (pe_callB call_len_dT (by rfl) T.b_len boot_len (pa_cons (pv 3) pa_nil)) (pe_callB (call_len_k (K := K)) (by rfl) T.b_len boot_len (pa_cons (pv 7) pa_nil)) (nomark _)) (pss_one ps_never) pss_nil)
      (pss_cons (ps_fld (pv 0) (pv 1) rfl)
      (pss_cons (ps_fld (pv 0) (pe_callTy (call_tuple_k (K := K)) (by rfl) T.b_tuple boot_tuple (pa_cons (pe_lc (own := [("x", 8)]) rfl sc_Table___init__.nd (pi_seq_k (K := K) (pv 7)) (blkOk_by (N := nm_Table___init__) (sc := (defScope st_Table___init__)) (by decide +kernel)) (fun _ _ _ _ _ => (pg_name (i := 8) sc_Table___init__.nd rfl (Or.inl rfl))) (fun _ _ _ _ _ => pts_nil) (fun _ _ _ _ _ => (pe_tup (pa_cons (pv 8) (pa_cons (pe_dget (hu_of hr) (pv 3) (pv 8) (fun _ _ => rfl)) pa_nil))))) pa_nil)) rfl)
      (pss_one (ps_fld (pv 0) (pv 3) rfl)))))))))), ?_⟩
  refine q_drop st (ev_call (n : Int) ⟨by omega, by omega⟩ (ea_one ev_var)) fun B1 H1 st1 => ?_
  refine q_noF st1 (et_not (et_B (ev_call e0 hin.seq.row (ea_one ev_var)))) (by rcases hin.seq with z | z <;> rw [z] <;> rfl) fun B2 H2 st2 => ?_
  refine q_dnew st2 e (fun _ z => nomatch z) fun dp σ3 B3 H3 hdp st3 => ?_
  refine q_for (fun p : Nat × (Dt × Case) => Dt.tup [.int ((p.1 : Nat) : Int), p.2.1]) (fun p => [(4, .int ((p.1 : Nat) : Int)), (5, p.2.1)]) (enumP 0 xs) st3 (ei_to (ei_enumA ev_var hin.seq) (enumD_map (fun p : Dt × Case => p.1) xs 0)) (fun a _ => eg_two)
    (fun i ρ' => ρ' = [.val (.ref a), .dat (.int (n : Int)), .dat e0, .obj dp (tdict ((xs.take i).map (·.2))), .any, .any, .any, .any, .any]) rfl ?_ ?_
  · rintro Bj i ⟨j, d, c⟩ ρ' σ' B4 H4 ha rfl st4
    rw [enumP_get] at ha
    obtain ⟨⟨d', c'⟩, hd, e2⟩ := Option.map_eq_some_iff.mp ha
    obtain ⟨rfl, e3⟩ := Prod.mk.inj e2
    obtain ⟨rfl, rfl⟩ := Prod.mk.inj e3
    have hm := hin.ent _ (List.mem_of_getElem? hd)
    have hi : i < xs.length := (List.getElem?_eq_some_iff.mp hd).1
    have hnew : c'.1 ∉ ((xs.take i).map (·.2)).map (·.1) := fun hmem => by
      rw [List.map_map] at hmem
      have e5 : (xs.take (i + 1)).map (·.2.1) = (xs.take i).map (·.2.1) ++ [c'.1] := by
        rw [List.take_add_one, hd, List.map_append]
        rfl
      have nd2 : ((xs.take (i + 1)).map (·.2.1)).Nodup := nd.sublist ((List.take_sublist _ _).map _)
      rw [e5] at nd2
      exact (List.nodup_append.mp nd2).2.2 _ hmem _ List.mem_cons_self rfl
    refine q_setE st4 (ev_call (d', c', (n : Int)) ⟨hm.1, hm.2.sub, hN1, hN2⟩ (ea_cons ev_var (ea_one ev_var))) fun σ5 B5 H5 st5 => ?_
    refine q_noF st5 (et_or (et_test (ev_isN (ev_var (i := 6)))) fun _ => et_test (et_din (A := c'.1) (i := 3) rfl (ev_ixT (i := 0) (ev_var (i := 6)) ev_int rfl) hnew)) rfl fun B6 H6 st6 => ?_
    refine s_dput (c := c') st6 rfl hdp (only_of rfl) (ev_ixT (i := 0) (ev_var (i := 6)) ev_int rfl) (ev_ixT (i := 1) (ev_var (i := 6)) ev_int rfl) hnew (by rw [List.length_map, List.length_take]; omega) fun B7 H7 st7 => ⟨_, B7, rfl, ?_⟩
    have q : (xs.take i).map (·.2) ++ [c'] = (xs.take (i + 1)).map (·.2) := by
      rw [List.take_add_one, hd, List.map_append]
      rfl
    rw [q] at st7
    exact st7.weak (.same (.same (.same (.same (.any (.any (.any (.any (.any .nil)))))))))
  · rintro ρ' σ' B4 H4 rfl st4
    rw [enumP_len, List.take_length] at st4
    have facts := lay_facts n hn1 hn2
    have l1 : 1 ≤ (allLots n).length := by
      match n, hn1, hn2 with
      | 1, _, _ => decide +kernel
      | 2, _, _ => decide +kernel
      | 3, _, _ => decide +kernel
      | 4, _, _ => decide +kernel
      | 5, _, _ => decide +kernel
    have cut : cutD ((allLots n).map lotD) (some ((1 : Nat) : Int)) none = (xs.map (·.2)).map fun c => lotD c.1 := by
      rw [cutD_from (by rw [List.length_map]; exact l1), ← List.map_drop, ← hlots, List.map_map, List.map_map]
      rfl
    refine q_setE st4 (EO.ev (EO.to (eo_sl (EVP.imp (ev_call n ⟨hn1, hn2⟩ (ea_cons (ev_var (i := 1)) (ea_one (ev_var (i := 1))))) fun d z => z) (eo_some ev_int) eo_none) cut)) fun σ5 B5 H5 st5 => ?_
    refine q_noF st5 (et_test (ev_lt (ev_lenDT (i := 3) rfl) (ev_lenS (ev_var (i := 7)) (.inl rfl)))) (decide_eq_false (by rw [List.length_map]; simp)) fun B6 H6 st6 => ?_
    have dpa : dp ≠ a := fun z => by
      rw [z, hx] at hdp
      cases hdp
    have f0 := Fst.ofSta st6 bz hx (fun j b u hj => by
      by_cases q3 : j = 3
      · subst q3
        have z : Sl.obj dp (tdict (xs.map (·.2))) = .obj b u := Option.some.inj hj
        injection z with z1 _
        rw [← z1]
        exact dpa
      · exact only_of (i := 3) (a := a) rfl j b u q3 hj)
    have cz : (xs.map (·.2)).length ≤ 100000 := by rw [List.length_map]; omega
    refine qf_fld f0 rfl (ev_var (i := 1)) T.c_table T.n_table_w (by decide) fun v0 d0 Bc Hc p0 hv0 ec f1 => ?_
    subst p0
    refine qf_fld f1 rfl (ev_tuple (EO.ev (eo_lcm (fun c : Case => lotD c.1) (fun c => [(8, lotD c.1)]) (xs.map (·.2)) (ei_seqA (ev_var (i := 7)) (.inl rfl)) cz (fun _ _ => eg_name) (by intro a _ j hj; simpa using hj) caseD
      (fun c hc => ev_tup (ea_cons (ev_var (i := 8)) (ea_one (ev_dgetT (i := 3) rfl (ev_var (i := 8)) hc))))))) T.c_table T.n_table_p (Nat.le_of_ble_eq_true rfl) fun v1 d1 Bd Hd p1 hv1 ed f2 => ?_
    subst p1
    obtain ⟨Be, u, hu, hbu, ee, f3⟩ := f2.know (i := 3) rfl hdp (only_of rfl)
    refine f_fldV f3 rfl (j := 3) rfl T.c_table T.n_table_t (Nat.le_of_ble_eq_true rfl) fun Hf f4 => ?_
    refine k Be Hf _ f4.gr f4.bx f4.hx ⟨?_, ⟨v1, rfl, hv1.mono ee⟩, ⟨dp, u, rfl, hbu, hu⟩, rfl⟩
    rw [show v0 = .int (n : Int) from hv0]
    rfl
abbrev nm_Table_answer : List PySem.Str := [("self" : PySem.Str), ("lot" : PySem.Str)]
abbrev ps_Table_answer : List PySem.Str := [("self" : PySem.Str), ("lot" : PySem.Str)]
theorem sc_Table_answer : FnScope nm_Table_answer ps_Table_answer (defScope st_Table_answer) := ⟨rfl, rfl, rfl, by decide +kernel, rfl, by decide +kernel, by decide +kernel⟩
/- slots: 0:self 1:lot -/
theorem ok_Table_answer (T : Tx K mg) : OkM P w K mg base CX0 "Table" "answer" 5 ps_Table_answer
    (PF (fun p : Nat × List Case × Case => 1 ≤ p.1 ∧ p.1 ≤ 12 ∧ p.2.2 ∈ p.2.1 ∧ GoodC (p.1 : Int) p.2.2) (fun p => [tblD K (p.1 : Int) p.2.1, lotD p.2.2.1]) (fun p r => r = lotD p.2.2.2)) := by
  refine ⟨Dm.ok T.d_table_answer sc_Table_answer (fun _ _ _ _ _ _ us hl => match us, hl with | [_, _], _ => rfl) (pf_len fun _ => rfl) (fun cdv A outer s H vs Q E hr h => ?_), T.meth_answer, T.c_table⟩
  obtain ⟨⟨n, cs, c⟩, B, ⟨hn1, hn2, hc, hg⟩, e, st, k⟩ := pf_open (N := nm_Table_answer) h
  dsimp only at hn1 hn2 hc hg k st
  refine ⟨_, PSs.nox (pss_one (ps_ret (pe_dget (hu_of hr) (pe_fld_k (K := K) (pv 0)) (pe_callKW (ok_lot_of T) (hr.mono (by decide)) (pa_cons (pv 1) (pa_cons (pe_fld_k (K := K) (pv 0)) pa_nil)) (pk_cons pe_bl pk_nil)) (fun _ _ => rfl)))), ?_⟩
  refine s_ret st (P := fun d => d = lotD c.2) ?_ k
  intro σ B H l Q q
  obtain ⟨v, h1, h2⟩ := l.dat (i := 0) (d := tblD K (n : Int) cs) rfl
  obtain ⟨a, dx, fs, x, b, ks, rfl, ha, q1, q2, q3, q4, q5, q6, _⟩ := h2
  refine ⟨.ref a, h1, a, _, dx, fs, _, rfl, l.ex _ _ ha, T.c_table, T.n_table_t, q4, ?_⟩
  refine ev_callN (lotD c.1, c.1, c.1, (n : Int)) ⟨LotIn.self hg.l hg.ne1, by dsimp only; omega, by dsimp only; omega⟩ (ea_cons (ev_var (i := 1)) (ea_one (ev_fldTW (ev_var (i := 0)) T.c_table T.n_table_w))) (ea_one ev_bl) rfl rfl rfl σ B H l _ fun v d B1 H1 pd g1 hv => ?_
  subst pd
  obtain ⟨kb, rfl, hb⟩ := has_lot hv
  obtain ⟨t, z1, z2⟩ := q6 c hc
  have hd := DGet.t (k := keyK c.1) (g1.i _ _ (g1.b _ _ q5)) (by rw [keyK_v]; exact g1.i _ _ hb)
  rw [show valV ks (keyK c.1) = some (.ref t) from z1] at hd
  exact ⟨b, .ref t, rfl, hd, q _ _ B1 H1 rfl g1 (lot_has (g1.b _ _ z2))⟩
theorem ev_makeTbl {D : Option Addr} {ρ : List Sl} {ta : TA} {E : XK} {n : Nat} {e0 : Dt} {xs : List (Dt × Case)} (hp : tblPre (n, e0, xs)) (h : EA D ta ρ [.int (n : Int), e0]) :
    EV D (tMake (TbC K) (PO (TbC K) tblPre (fun p => [.int (p.1 : Int), p.2.1]) tblPost) [] E ta) ρ (tblD K (n : Int) (xs.map (·.2))) :=
  evp_make (n, e0, xs) hp h fun B a dx fs ha B' e ⟨q1, ⟨v, q2, q3⟩, ⟨b, u, q4, q5, q6⟩, q7⟩ => by
    obtain ⟨kvs, rfl, z1, z2, z3⟩ := q6
    exact ⟨_, rfl, a, dx, fs, v, b, kvs, rfl, ha, q1, q2, q3.mono e, q4, e _ _ q5, fun c hc => by
      obtain ⟨t, y1, y2⟩ := z3 c hc
      exact ⟨t, y1, e _ _ y2⟩, q7⟩
abbrev nm_told_of : List PySem.Str := [("table" : PySem.Str), ("family" : PySem.Str), ("lots" : PySem.Str), ("lot" : PySem.Str)]
abbrev ps_told_of : List PySem.Str := [("table" : PySem.Str), ("family" : PySem.Str)]
theorem sc_told_of : FnScope nm_told_of ps_told_of (defScope st_told_of) := ⟨rfl, rfl, rfl, by decide +kernel, rfl, by decide +kernel, by decide +kernel⟩
/- slots: 0:table 1:family 2:lots 3:lot -/
theorem ok_told_of (T : Tx K mg) : OkF P w K mg base CX0 "told_of" 8 ps_told_of
    (PF (fun p : Nat × List Case × Dt × List Case => 1 ≤ p.1 ∧ p.1 ≤ 12 ∧ IsSeq p.2.2.1 (p.2.2.2.map fun c => .lst (intsD c.1)) ∧ (∀ c ∈ p.2.2.2, c ∈ p.2.1 ∧ GoodC (p.1 : Int) c) ∧ p.2.2.2.length ≤ 80) (fun p => [tblD K (p.1 : Int) p.2.1, p.2.2.1])
      (fun p r => r = toldD K (p.1 : Int) p.2.2.2)) := by
  refine Df.ok T.d_told_of sc_told_of (fun _ _ _ _ _ _ us hl => match us, hl with | [_, _], _ => rfl) (pf_len fun _ => rfl) (fun cdv A outer s H vs Q E hr h => ?_)
  obtain ⟨⟨n, cs, fam, ds⟩, B, ⟨hn1, hn2, hs, hc, few⟩, e, st, k⟩ := pf_open (N := nm_told_of) h
  dsimp only at hn1 hn2 hs hc few k st
  have hN1 : 1 ≤ (n : Int) := by omega
  have hN2 : (n : Int) ≤ 12 := by omega
  refine ⟨_, PSs.nox (pss_cons (ps_set (i := 2) sc_told_of.nd rfl (Or.inl rfl) (pe_callO (ok_told_family T) (hr.mono (by decide)) (pa_cons (pv 1) (pa_cons (pe_fld_k (K := K) (pv 0)) pa_nil))))
      (pss_one (ps_ret (pe_makeO_k (K := K) (ok_Told___init__ T) (hr.mono (by decide)) (pa_cons (pe_fld_k (K := K) (pv 0)) (pa_cons (pe_lc (own := [("lot", 3)]) rfl sc_told_of.nd (pi_seq_k (K := K) (pv 2)) (blkOk_by (N := nm_told_of) (sc := (defScope st_told_of)) (by decide +kernel)) (fun _ _ _ _ _ => (pg_name (i := 3) sc_told_of.nd rfl (Or.inl rfl))) (fun _ _ _ _ _ => pts_nil) (fun _ _ _ _ _ => (pe_tup (pa_cons (pv 3) (pa_cons (pe_methO_k (K := K) (ok_Table_answer T) (hr.mono (by decide)) (pv 0) (pa_cons (pv 3) pa_nil)) pa_nil))))) pa_nil)))))), ?_⟩
  refine q_setE st (d := .tup (ds.map fun c => lotD c.1)) (EVP.imp (ev_call ((n : Int), fam, ds.map fun c => (Dt.lst (intsD c.1), c.1, c.1)) ⟨hN1, hN2, by rw [List.map_map]; exact hs, fun q hq => ?_, by rw [List.length_map]; exact few⟩ (ea_cons (ev_var (i := 1)) (ea_one (ev_fldTW (ev_var (i := 0)) T.c_table T.n_table_w)))) fun d z => z.trans (by rw [List.map_map]; rfl)) fun σ1 B1 H1 st1 => ?_
  · obtain ⟨c, hcm, rfl⟩ := List.mem_map.mp hq
    have g := (hc c hcm).2
    exact ⟨.inl rfl, .refl _, g.l, g.ne1⟩
  refine s_ret st1 (EV.to (ev_makeTold (n := (n : Int)) (e0 := .lst (ds.map caseD)) (xs := ds.map fun c => (caseD c, c)) hN1 hN2 ⟨.inl (by rw [List.map_map]; rfl), fun q hq => ?_, by rw [List.length_map]; exact few⟩ (ea_cons (ev_fldTW (ev_var (i := 0)) T.c_table T.n_table_w) (ea_one (EO.ev (eo_lcm (fun c : Case => lotD c.1) (fun c => [(3, lotD c.1)]) ds (ei_seqA (ev_var (i := 2)) (.inr rfl)) (by omega) (fun _ _ => eg_name) (by intro a _ j hj; simpa using hj) caseD
      (fun c hcm => ev_tup (ea_cons (ev_var (i := 3)) (ea_one ?_)))))))) (by rw [List.map_map, show ((fun p : Dt × Case => p.2) ∘ fun c : Case => (caseD c, c)) = id from rfl, List.map_id])) k
  · obtain ⟨c, hcm, rfl⟩ := List.mem_map.mp hq
    exact ⟨(hc c hcm).2.ent, (hc c hcm).2⟩
  · have hcc := hc c hcm
    intro σ B H l Q q
    obtain ⟨v, h1, h2⟩ := l.dat (i := 0) (d := tblD K (n : Int) cs) rfl
    obtain ⟨a, dx, fs, x, b, ks, rfl, ha, q1, q2, q3, q4, q5, q6, q7⟩ := id h2
    refine ⟨.ref a, h1, a, dx, fs, rfl, l.ex _ _ ha, q7, ?_⟩
    refine (ea_one (ev_var (i := 3)) : EA none _ _ [lotD c.1]) σ B H l _ fun vs ds' B1 H1 pd g1 hvs => ?_
    subst pd
    refine ⟨(n, cs, c), B1, ⟨hn1, hn2, hcc.1, hcc.2⟩, g1.i, ⟨_, _, rfl, h2.mono g1.b, by rw [List.append_nil]; exact hvs⟩, fun v d B2 H2 rd g2 hv => q v d B2 H2 rd (g1.trans g2) hv⟩
end
end K37
/-! K37V: newsbooks.firsts, newsbooks.wishes -/
namespace L2
open PySem PySem.Spec PyProof.Rows
section
variable {X : Cx}
/-- name = {..} on one line, the name a local -/
theorem ps_setDc {i : Nat} {y : Str} {py : Pos} {kx vx tg iter : Expr} {ifs : List Expr} {scope : Scope} {own : List (Str × Nat)} {pos spos : Pos} {wi : TI} {g : TG} {tt : TT} {tk tv : TE} (hc : X.calm = true) (hN : X.N.Nodup) (hy : X.N[i]? = some y) (hyl : X.env.scope.names.lookup y = some .local)
    (hsw : swapsWith (.DictComp kx vx [⟨tg, iter, ifs, 0⟩] scope pos) (some (.Name y py)) spos.line X.env = pure true) (hi : PI X tg iter wi) (ok : BlkOk X.N X.env.scope scope own)
    (hg : ∀ (s : Shared) (H : Hp) (C : Addr) (cl : List (Str × Addr)) (fp : List Addr), PG (X.blk s H scope (compEnvC scope cl C X.env) fp) tg g) (ht : ∀ (s : Shared) (H : Hp) (C : Addr) (cl : List (Str × Addr)) (fp : List Addr), PTs (X.blk s H scope (compEnvC scope cl C X.env) fp) ifs tt)
    (hk : ∀ (s : Shared) (H : Hp) (C : Addr) (cl : List (Str × Addr)) (fp : List Addr), PE (X.blk s H scope (compEnvC scope cl C X.env) fp) kx tk)
    (he : ∀ (s : Shared) (H : Hp) (C : Addr) (cl : List (Str × Addr)) (fp : List Addr), PE (X.blk s H scope (compEnvC scope cl C X.env) fp) vx tv) (hs : ∀ x, foldedSetIterable iter X.env x = pure x := by intro _; rfl) :
    PS X (.Assign [.Name y py] (.DictComp kx vx [⟨tg, iter, ifs, 0⟩] scope pos) spos) (tAsg (tDc wi g tt tk tv (own.map (·.2))) (gName i)) := by
  refine ⟨fun pins s σ H D I h => ?_⟩
  rw [exec_Assign_Name_used _ _ _ _ hsw]
  refine wpAny_bind (wpAny_standAt (wpAny_bind ?_))
  show wpAny _ X.A (do let _ ← comprehension (.DictComp kx vx [⟨tg, iter, ifs, 0⟩] scope pos) scope X.env (firstIterPos [⟨tg, iter, ifs, 0⟩] pos) newDict false (eval iter X.env) (some (assign (.Name y py) X.env))) _ _ s
  have h : tDc wi g tt tk tv (own.map (·.2)) σ H (fun x H1 => gName i x σ H1 D.nx) := h
  refine wpAny_bind (thn (dc_core (Qf := fun _ s' => SP X pins D .next s') hc hN I hi ok hg ht hk he hs h fun L C s' m H' I' q hn f => ?_) fun _ s' hq => wpAny_pure (wpAny_pure hq))
  show wpAny _ _ (assign (.Name y py) X.env (.ref L)) _ _ _
  refine wpAny_assign_Name (store_ok2 (v := V.ref L) I' hN hy (.inl hyl) rfl (fun s2 I2 ⟨a, sb, ha⟩ => ?_) (.inr hyl))
  obtain ⟨f0, f1, f2, f3, f4, f5⟩ := f
  have haC : C ≠ a := by
    rcases ha with z | z
    · rw [z]; exact f1
    · exact fun e => f4 y a z e.symm
  refine ⟨m, hn.sameBut sb haC, fun h3 sb3 => ?_⟩
  exact ⟨_, H', I2.turned (t' := s2.toks) (fun b o hb e => (sb3.2 b hb).trans e) f0 f1 f3 f4 f5, q⟩
theorem sw_trueD {kx vx : Expr} {gs : List Comprehension} {scope : Scope} {pos py : Pos} {y : Str} {l : Nat} {env : Env} (hk : env.scope.kind = .function) (hy : env.scope.names.lookup y = some .local) (hl : (py.line == pos.line) = true)
    (ha : (scope.names.any fun (n, k) => n == y && (k == .local || k == .cell)) = false) : swapsWith (.DictComp kx vx gs scope pos) (some (.Name y py)) l env = pure true := by
  have ky : env.kindOf y = some .local := hy
  have hb : env.blockKind = .function := by unfold Env.blockKind; rw [hk]; rfl
  unfold swapsWith
  simp only [hb, ky, ha, Expr.pos, hl]
  rfl
end
end L2
namespace K37
open PySem PyProof.Rows L2
open Evl (Ex)
section
variable {D : Option Addr} {B0 H0 Bk B H : Hp} {ρ : List Sl} {σ : L2.St} {te ta tb : TE} {tz tu : TS} {Dn : Ends} {P : Dt → Prop} {d : Dt} {K : PySem.W.Frag}
theorem et_truI {i : Int} (h : EV D te ρ (.int i)) : ET D (fun σ H Q => te σ H fun x H' => ∃ k, TruV K x H' k ∧ Q k H') ρ (i != 0) := fun σ B H l Q q => h σ B H l _ fun v x B1 H1 px g1 hv => by
  subst px
  have e : v = .int i := hv
  subst e
  exact ⟨_, rfl, q _ B1 H1 rfl g1⟩
theorem ev_shl {i j : Int} (h : CPow i j) (ha : EV D ta ρ (.int i)) (hb : EV D tb ρ (.int j)) : EV D (tOp (rI CPow fun i j => .int (i * 2 ^ j.toNat)) ta tb) ρ (.int (i * 2 ^ j.toNat)) := ev_op ha hb (rd_I h fun _ => rfl)
theorem ev_shr {i j : Int} (h : 0 ≤ j) (ha : EV D ta ρ (.int i)) (hb : EV D tb ρ (.int j)) : EV D (tOp (rI (fun _ j => 0 ≤ j) fun i j => .int (i / 2 ^ j.toNat)) ta tb) ρ (.int (i / 2 ^ j.toNat)) := ev_op ha hb (rd_I h fun _ => rfl)
theorem ev_bnd {i j : Int} (ha : EV D ta ρ (.int i)) (hb : EV D tb ρ (.int j)) : EV D (tOp (rI0 fun i j => .int (Builtin.bitAnd i j)) ta tb) ρ (.int (Builtin.bitAnd i j)) := ev_op ha hb (rd_I0 fun _ => rfl)
theorem ev_inv {i : Int} (ha : EV D ta ρ (.int i)) : EV D (tUn (rU fun i => .int (Builtin.bitNot i)) ta) ρ (.int (Builtin.bitNot i)) := ev_un ha fun _ => rfl
theorem ev_bits {i : Int} (ha : EV D ta ρ (.int i)) : EV D (tBits ta) ρ (.int (Builtin.Int.intBits i : Nat)) := fun σ B H l Q q => ha σ B H l _ fun v x B1 H1 px g1 hv => by
  subst px
  exact ⟨i, hv, q _ _ B1 H1 rfl g1 rfl⟩
theorem ev_val {v : V} {d : Dt} (h : ∀ B, Has d v B) : EV D (tC v) ρ d := fun σ B H l Q q => q v d B H rfl (Gr.refl l.ex) (h B)
end
/-- the bits of a lot -/
def bitsL (A : List Int) : Int := (A.map fun x => (1 : Int) * 2 ^ x.toNat).sum
section
variable {P : Program} {w : World} {K : PySem.W.Frag} {mg : PySem.Str → Option Value} {base : Heap}
abbrev nm_lot_bits : List PySem.Str := [("lot" : PySem.Str), ("x" : PySem.Str)]
abbrev ps_lot_bits : List PySem.Str := [("lot" : PySem.Str)]
theorem sc_lot_bits : FnScope nm_lot_bits ps_lot_bits (defScope st_lot_bits) := ⟨rfl, rfl, rfl, by decide +kernel, rfl, by decide +kernel, by decide +kernel⟩
/- slots: 0:lot 1:x -/
theorem ok_lot_bits (T : Tx K mg) : OkF P w K mg base CX0 "lot_bits" 1 ps_lot_bits
    (PF (fun A : List Int => A.length ≤ 1000 ∧ ∀ x ∈ A, 0 ≤ x ∧ x < 1000) (fun A => [lotD A]) (fun A r => r = .int (bitsL A))) := by
  refine Df.ok T.d_lot_bits sc_lot_bits (fun _ _ _ _ _ _ us hl => match us, hl with | [_], _ => rfl) (pf_len fun _ => rfl) (fun cdv A outer s H vs Q E hr h => ?_)
  obtain ⟨L, B, ⟨hl, hx⟩, e, st, k⟩ := pf_open (N := nm_lot_bits) h
  refine ⟨_, PSs.nox (pss_one (ps_ret (pe_callB (cr_sum_k (K := K) rfl) (by rfl) T.b_sum boot_sum (pa_cons (pe_lc (own := [("x", 1)]) rfl sc_lot_bits.nd (pi_seq_k (K := K) (pv 0)) (blkOk_by (N := nm_lot_bits) (sc := (defScope st_lot_bits)) (by decide +kernel)) (fun _ _ _ _ _ => (pg_name (i := 1) sc_lot_bits.nd rfl (Or.inl rfl))) (fun _ _ _ _ _ => pts_nil) (fun _ _ _ _ _ => (pe_op op_shl pe_int (pv 1)))) pa_nil)))), ?_⟩
  exact s_ret st (ev_sum (EO.ev (EO.to (eo_lcm Dt.int (fun x => [(1, .int x)]) L (ei_seqA ev_var (.inr rfl)) (by omega) (fun _ _ => eg_name) (by intro a _ j hj; simpa using hj) (fun x => Dt.int ((1 : Int) * 2 ^ x.toNat))
    (fun x hm => ev_shl (by have := hx x hm; exact ⟨this.1, by omega, by decide⟩) ev_int ev_var)) (by show _ = List.map Dt.int (List.map _ _); rw [List.map_map]; rfl)))) k
abbrev nm_bits_lot : List PySem.Str := [("bits" : PySem.Str), ("x" : PySem.Str)]
abbrev ps_bits_lot : List PySem.Str := [("bits" : PySem.Str)]
theorem sc_bits_lot : FnScope nm_bits_lot ps_bits_lot (defScope st_bits_lot) := ⟨rfl, rfl, rfl, by decide +kernel, rfl, by decide +kernel, by decide +kernel⟩
/- slots: 0:bits 1:x -/
theorem ok_bits_lot (T : Tx K mg) : OkF P w K mg base CX0 "bits_lot" 1 ps_bits_lot
    (PF (fun b : Int => Builtin.Int.intBits b ≤ 1000) (fun b => [.int b]) (fun b r => ∃ ds, r = .tup ds)) := by
  refine Df.ok T.d_bits_lot sc_bits_lot (fun _ _ _ _ _ _ us hl => match us, hl with | [_], _ => rfl) (pf_len fun _ => rfl) (fun cdv A outer s H vs Q E hr h => ?_)
  obtain ⟨b, B, hb, e, st, k⟩ := pf_open (N := nm_bits_lot) h
  refine ⟨_, PSs.nox (pss_one (ps_ret (pe_callTy (call_tuple_k (K := K)) (by rfl) T.b_tuple boot_tuple (pa_cons (pe_lc (own := [("x", 1)]) rfl sc_bits_lot.nd (pi_range1 (by rfl) T.b_range (pa_cons (pe_bits (pv 0)) pa_nil)) (blkOk_by (N := nm_bits_lot) (sc := (defScope st_bits_lot)) (by decide +kernel)) (fun _ _ _ _ _ => (pg_name (i := 1) sc_bits_lot.nd rfl (Or.inl rfl))) (fun _ _ _ _ _ => (pts_one (pt_truth_k (K := K) (pe_op op_and (pe_op op_shr (pv 0) (pv 1)) pe_int) (by intro _; rfl)))) (fun _ _ _ _ _ => (pv 1))) pa_nil)))), ?_⟩
  exact s_ret st (ev_tuple (EO.ev (eo_lc Dt.int (fun x => [(1, .int x)]) (upto (Builtin.Int.intBits b)) (ei_to (ei_rng1 (ev_bits ev_var) (by omega)) rangeD0) (by rw [upto_len]; omega) (fun _ _ => eg_name) (by intro a _ j hj; simpa using hj)
    (fun x => (Builtin.bitAnd (b / 2 ^ x.toNat) 1) != 0) (fun x hx => et_truI (ev_bnd (ev_shr (mem_upto.mp hx).1 ev_var ev_var) ev_int)) Dt.int (fun x _ _ => ev_var)))) fun v d B2 H2 p g hv => k v d B2 H2 ⟨_, p⟩ g hv
/-! ### a dict of ints to ints, locked -/
def kvI (kvs : List (Int × Int)) : List (L2.Key × V) := kvs.map fun p => (Sum.inl p.1, V.int p.2)
def fz (od : Obj) (kvs : List (Int × Int)) : Hp → HO → Prop := fun _ u => u = .frz od (.dK (kvI kvs))
def pbB (wish : PySem.Str) (a b one other : Int) : Bool :=
  if wish = ("heritage" : PySem.Str) then decide (Builtin.bitAnd a (Builtin.bitNot b) = 0) && !decide (Builtin.bitAnd (Builtin.bitAnd other a) (Builtin.bitNot one) = 0)
  else decide (Builtin.bitAnd a (Builtin.bitNot b) = 0) && (decide (Builtin.bitAnd other (Builtin.bitNot a) = 0) && !decide (Builtin.bitAnd one (Builtin.bitNot other) = 0))
/-- pair_breaks: over a locked dict -/
def spPB : Sp := fun vs H Q _ => ∃ (wish : PySem.Str) (a b one other : Int) (dp : Addr) (od : Obj) (kvs : List (Int × Int)) (B : Hp), vs = [.str wish, .int a, .int b, .ref dp] ∧ (wish = "heritage" ∨ wish = "outcast") ∧ Ex B H ∧ B dp = none ∧ H dp = some (.frz od (.dK (kvI kvs))) ∧
  valV (kvI kvs) (Sum.inl a) = some (.int one) ∧ valV (kvI kvs) (Sum.inl b) = some (.int other) ∧ ∀ B2 H2, Gr none B H B2 H2 → Q (.bl (pbB wish a b one other)) H2
theorem ev_dgetI {D : Option Addr} {ρ : List Sl} {te : TE} {i : Nat} {dp : Addr} {od : Obj} {kvs : List (Int × Int)} {a x : Int} (hi : ρ[i]? = some (.obj dp (fz od kvs))) (h : EV D te ρ (.int a)) (hv : valV (kvI kvs) (Sum.inl a) = some (.int x)) : EV D (tDGet (tVar i) te) ρ (.int x) := fun σ B H l Q q => by
  obtain ⟨e0, _⟩ := l.obj hi
  refine ⟨.ref dp, e0, h σ B H l _ fun v d' B1 H1 pd g1 hv' => ?_⟩
  subst pd
  obtain ⟨e1, z, ⟨u, hx, nl, rfl⟩, mo, nd⟩ := (l.gr g1).obj hi
  have e2 : v = .int a := hv'
  subst e2
  exact ⟨dp, .int x, rfl, .inl ⟨_, Sum.inl a, .inr ⟨od, hx⟩, rfl, hv.symm⟩, q _ _ B1 H1 rfl g1 rfl⟩
theorem q_match {D : Option Addr} {B0 H0 Bk B H : Hp} {ρ : List Sl} {σ : L2.St} {te : TE} {tm : V → TS} {tz : TS} {Dn : Ends} {y : PySem.Str} (s : Sta D B0 H0 Bk ρ σ B H) (h : EV D te ρ (.str y)) (k : ∀ B' H', Sta D B0 H0 Bk ρ σ B' H' → tm (.str y) { Dn with nx := tz Dn } σ H') : tSeq (tMatch te tm) tz Dn σ H :=
  h σ B H s.rl _ fun v d B1 H1 pd g1 hv => by
    subst pd
    have e : v = .str y := hv
    subst e
    exact k B1 H1 (s.go g1)
theorem m_hit {z : PySem.Str} {tb : TS} {tr : V → TS} {Dn : Ends} {σ : L2.St} {H : Hp} (h : tb Dn σ H) : mCons z tb tr (.str z) Dn σ H := ⟨z, rfl, by rw [if_pos rfl]; exact h⟩
theorem m_miss {y z : PySem.Str} {tb : TS} {tr : V → TS} {Dn : Ends} {σ : L2.St} {H : Hp} (ne : y ≠ z) (h : tr (.str y) Dn σ H) : mCons z tb tr (.str y) Dn σ H := ⟨y, rfl, by rw [if_neg ne]; exact h⟩
abbrev nm_pair_breaks : List PySem.Str := [("wish" : PySem.Str), ("a" : PySem.Str), ("b" : PySem.Str), ("chosen" : PySem.Str), ("one" : PySem.Str), ("other" : PySem.Str), ("within" : PySem.Str)]
abbrev ps_pair_breaks : List PySem.Str := [("wish" : PySem.Str), ("a" : PySem.Str), ("b" : PySem.Str), ("chosen" : PySem.Str)]
theorem sc_pair_breaks : FnScope nm_pair_breaks ps_pair_breaks (defScope st_pair_breaks) := ⟨rfl, rfl, rfl, by decide +kernel, rfl, by decide +kernel, by decide +kernel⟩
/- slots: 0:wish 1:a 2:b 3:chosen 4:one 5:other 6:within -/
theorem ok_pair_breaks (T : Tx K mg) : OkF P w K mg base CX0 "pair_breaks" 1 ps_pair_breaks spPB := by
  refine Df.ok T.d_pair_breaks sc_pair_breaks (fun _ _ _ _ _ _ us hl => match us, hl with | [_, _, _, _], _ => rfl) (fun vs H Q E h => by obtain ⟨_, _, _, _, _, _, _, _, _, rfl, _⟩ := h; rfl) (fun cdv A outer s H vs Q E hr h => ?_)
  obtain ⟨wish, a, b, one, other, dp, od, kvs, B, rfl, hw, e, z, hx, ha, hb, k⟩ := h
  have st : Sta none B H B [.dat (.str wish), .dat (.int a), .dat (.int b), .obj dp (fz od kvs), .any, .any, .any] (L2.start nm_pair_breaks [.str wish, .int a, .int b, .ref dp]) B H := by
    have st0 : Sta none B H B [.dat (.str wish), .dat (.int a), .dat (.int b), .any, .any, .any, .any] (L2.start nm_pair_breaks [.str wish, .int a, .int b, .non]) B H := by
      have h0 : HasL [Dt.str wish, .int a, .int b, .non] [.str wish, .int a, .int b, .non] B := .cons rfl (.cons rfl (.cons rfl (.one rfl)))
      refine (Sta.start e (rl_dats (D := none) e (fun _ z => nomatch z) h0 3) fun i ds => no_own i ds).weak (.same (.same (.same (.any (.any (.any (.any .nil)))))))
    exact st0.setObj (i := 3) z hx (fun _ => nofun) rfl (fun _ _ _ _ h => h) (by intro q; cases q)
  refine ⟨_, PSs.nox (pss_cons (ps_par (i := 4) (j := 5) (by rfl) sc_pair_breaks.nd rfl rfl (by decide) rfl rfl (pa_cons (pe_dget (hu_of hr) (pv 3) (pv 1) (fun _ _ => rfl)) (pa_cons (pe_dget (hu_of hr) (pv 3) (pv 2) (fun _ _ => rfl)) pa_nil)) (by rfl))
      (pss_cons (ps_set (i := 6) sc_pair_breaks.nd rfl (Or.inl rfl) (pe_cmpR op_eq (pe_op op_and (pv 1) (pe_un un_inv (pv 2))) pe_int (nomark _)))
      (pss_cons (ps_match (pv 0) (pms_cons (pss_one (ps_ret (pe_and (pv 6) (pe_one (pe_cmpR op_ne (pe_op op_and (pe_op op_and (pv 5) (pv 1)) (pe_un un_inv (pv 4))) pe_int (nomark _)))))) (pms_cons (pss_one (ps_ret (pe_cmpR op_ne (pe_op op_and (pe_op op_and (pv 4) (pv 5)) (pe_un un_inv (pe_dget (hu_of hr) (pv 3) (pe_op op_or (pv 1) (pv 2)) (fun _ _ => rfl)))) pe_int (nomark _)))) (pms_cons (pss_one (ps_ret (pe_and (pv 6) (pe_and (pe_cmpR op_eq (pe_op op_and (pv 5) (pe_un un_inv (pv 1))) pe_int (nomark _)) (pe_one (pe_cmpR op_ne (pe_op op_and (pv 4) (pe_un un_inv (pv 5))) pe_int (nomark _))))))) (pms_cons (pss_one (ps_ret (pe_and (pe_cmpR op_ne (pe_op op_and (pe_op op_and (pv 4) (pv 2)) (pe_un un_inv (pv 5))) pe_int (nomark _)) (pe_one (pe_cmpR op_ne (pe_op op_and (pe_op op_and (pv 5) (pv 1)) (pe_un un_inv (pv 4))) pe_int (nomark _)))))) (pms_cons (pss_one (ps_ret (pe_and (pv 6) (pe_and (pe_cmpR op_ne (pe_op op_and (pv 5) (pv 1)) pe_int (nomark _)) (pe_one (pe_cmpR op_ne (pe_op op_and (pv 5) (pv 1)) (pv 4) (nomark _))))))) pms_nil))))))
      (pss_one (ps_ret (pe_and (pe_cmpR op_eq (pv 1) (pv 2) (nomark _)) (pe_one (pe_cmpR op_ne (pe_op op_and (pv 4) (pe_op op_sub (pv 4) pe_int)) pe_int (nomark _))))))))), ?_⟩
  refine q_par st (ea_cons (ev_dgetI (i := 3) rfl (ev_var (i := 1)) ha) (ea_one (ev_dgetI (i := 3) rfl (ev_var (i := 2)) hb))) fun σ1 B1 H1 st1 => ?_
  refine q_setE st1 (ev_eqI (ev_bnd (ev_var (i := 1)) (ev_inv (ev_var (i := 2)))) ev_int) fun σ2 B2 H2 st2 => ?_
  refine q_match st2 (ev_var (i := 0)) fun B3 H3 st3 => ?_
  rcases hw with rfl | rfl
  · refine m_hit ?_
    refine s_ret (P := fun d => d = .bl (pbB "heritage" a b one other)) st3 (EV.to (ev_andV (ev_var (i := 6)) fun _ => ev_neI (ev_bnd (ev_bnd (ev_var (i := 5)) (ev_var (i := 1))) (ev_inv (ev_var (i := 4)))) ev_int) ?_) fun v d B4 H4 p g hv => ?_
    · unfold pbB
      rw [if_pos rfl]
    · subst p
      rw [show v = _ from hv]
      exact k B4 H4 g
  · refine m_miss (by decide +kernel) (m_miss (by decide +kernel) (m_hit ?_))
    refine s_ret (P := fun d => d = .bl (pbB "outcast" a b one other)) st3 (EV.to (ev_andV (ev_var (i := 6)) fun _ => ev_andV (ev_eqI (ev_bnd (ev_var (i := 5)) (ev_inv (ev_var (i := 1)))) ev_int) fun _ => ev_neI (ev_bnd (ev_var (i := 4)) (ev_inv (ev_var (i := 5)))) ev_int) ?_) fun v d B4 H4 p g hv => ?_
    · unfold pbB
      rw [if_neg (by decide +kernel)]
    · subst p
      rw [show v = _ from hv]
      exact k B4 H4 g
theorem valV_kvI_none : ∀ {kvs : List (Int × Int)} {k : Int}, k ∉ kvs.map (·.1) → valV (kvI kvs) (Sum.inl k : L2.Key) = none
  | [], _, _ => rfl
  | p :: kvs, k, h => by
    show valV ((Sum.inl p.1, V.int p.2) :: kvI kvs) (Sum.inl k : L2.Key) = none
    rw [valV_neg (fun e => h (by rw [← Sum.inl.inj e]; exact List.mem_cons_self))]
    exact valV_kvI_none fun z => h (List.mem_cons_of_mem _ z)
theorem valV_kvI : ∀ {kvs : List (Int × Int)} {p : Int × Int}, (kvs.map (·.1)).Nodup → p ∈ kvs → valV (kvI kvs) (Sum.inl p.1 : L2.Key) = some (.int p.2)
  | [], _, _, h => by cases h
  | q :: kvs, p, nd, h => by
    show valV ((Sum.inl q.1, V.int q.2) :: kvI kvs) (Sum.inl p.1 : L2.Key) = _
    have nd' := List.nodup_cons.mp nd
    rcases List.mem_cons.mp h with e | e
    · subst e
      exact valV_pos rfl
    · rw [valV_neg (fun e' => nd'.1 (by
        have e6 : q.1 = p.1 := Sum.inl.inj e'
        show q.1 ∈ _
        rw [e6]
        exact List.mem_map_of_mem e))]
      exact valV_kvI nd'.2 e
def dkI (kvs : List (Int × Int)) : Hp → HO → Prop := fun _ u => u = .dK (kvI kvs)
section
variable {B0 H0 Bk B H : Hp} {ρ : List Sl} {σ : L2.St} {tk tv : TE} {tz tu : TS} {Dn : Ends} {wi : TI} {g : TG} {vs : List Nat} {α : Type}
theorem q_dcI {i : Nat} (f : α → Dt) (l : α → List (Nat × Dt)) (as : List α) (s : Sta none B0 H0 Bk ρ σ B H) (e0 : Ex B0 H0) (hi : EI none wi ρ (as.map f)) (hg : ∀ a ∈ as, EG g (f a) (l a)) (hv : ∀ a ∈ as, ∀ j ∈ (l a).map (·.1), j ∈ vs)
    (key val : α → Int) (hk : ∀ a ∈ as, EV none tk (setR (wipeR ρ vs) (l a)) (.int (key a))) (hw : ∀ a ∈ as, EV none tv (setR (wipeR ρ vs) (l a)) (.int (val a))) (nd : (as.map key).Nodup) (hz : as.length ≤ 1000)
    (k : ∀ p σ' B' H', H0 p = none → Sta none B0 H0 Bk (ρ.set i (.obj p (dkI (as.map fun a => (key a, val a))))) σ' B' H' → tz Dn σ' H') : tSeq (tAsg (tDc wi g tYes tk tv vs) (gName i)) tz Dn σ H := by
  refine hi σ B H s.rl _ fun J ds B1 H1 pd g1 w => ?_
  subst pd
  intro p hp
  have hlen : (as.map f).length = as.length := List.length_map ..
  have s1 := s.go g1
  have z1 : B1 p = none := ex_none g1.i hp
  have n0 : H0 p = none := s1.gr.none_back e0 (fun _ z => nomatch z) hp
  refine ⟨fun i m H' => m = as.length - i ∧ i ≤ as.length ∧ ∃ B', Gr none B1 H1 B' H' ∧ B' p = none ∧ H' p = some (.dK (kvI ((as.take i).map fun a => (key a, val a)))), ⟨_, rfl, Nat.zero_le _, B1, Gr.newO g1.i hp, z1, upd_same⟩, ?_⟩
  rintro j m H2 ⟨rfl, hj, B2, g2, z2, h2⟩
  by_cases hlt : j < as.length
  · refine .inr ⟨w.goes j H2 (by rw [hlen]; exact hlt) (g2.b.trans g2.i), fun H' => ∃ B', Gr none B1 H1 B' H' ∧ B' p = none ∧ H' p = some (.dK (kvI ((as.take (j + 1)).map fun a => (key a, val a)))), fun H' h => ⟨_, by omega, rfl, by omega, h⟩, ?_⟩
    intro x H3 y
    obtain ⟨d, B3, q3, g3, hd⟩ := w.yields j B2 H2 x H3 (by rw [hlen]; exact hlt) g2.b g2.i y
    have ha : as[j]? = some as[j] := List.getElem?_eq_getElem hlt
    have hm : as[j] ∈ as := List.getElem_mem hlt
    have ed : f as[j] = d := by
      rw [List.getElem?_map, ha] at q3
      exact Option.some.inj q3
    subst ed
    generalize as[j] = a at ha hm hd
    have gD := g3 none
    have z3 := gD.k p _ (fun z => nomatch z) h2 z2
    have r3 : Rl none (wipeR ρ vs) (wipe σ vs) B3 H3 := ((s1.rl.gr g2).gr gD).wipe vs
    refine hg _ hm (wipe σ vs) B3 H3 x gD.i hd _ fun us hu => ⟨wipe_setV (hv _ hm), ?_⟩
    have r4 := Rl.sets r3 hu
    show tk _ H3 _
    refine hk _ hm _ B3 H3 r4 _ fun v e B4 H4 pe g4 hv4 => ?_
    subst pe
    have z4 := g4.k p _ (fun z => nomatch z) z3.2 z3.1
    refine hw _ hm _ B4 H4 (r4.gr g4) _ fun v2 e2 B5 H5 pe2 g5 hv5 => ?_
    subst pe2
    have z5 := g5.k p _ (fun z => nomatch z) z4.2 z4.1
    have e4 : v = .int (key a) := hv4
    have e5 : v2 = .int (val a) := hv5
    have tk1 : (as.take (j + 1)) = as.take j ++ [a] := by
      rw [List.take_add_one, ha]
      rfl
    have nk : key a ∉ ((as.take j).map fun a => (key a, val a)).map (·.1) := fun hmem => by
      rw [List.map_map] at hmem
      have nd2 : ((as.take (j + 1)).map key).Nodup := nd.sublist ((List.take_sublist _ _).map _)
      rw [tk1, List.map_append] at nd2
      exact (List.nodup_append.mp nd2).2.2 _ hmem _ List.mem_cons_self rfl
    refine ⟨_, Sum.inl (key a), by rw [e4]; rfl, z5.2, Nat.lt_of_lt_of_le (show _ < 1001 by unfold kvI; rw [List.length_map, List.length_map, List.length_take]; omega) (by decide), B5, (((g2.trans gD).trans g4).trans g5).mut hp z5.1, z5.1, ?_⟩
    rw [putK_new _ (valV_kvI_none nk), upd_same, tk1, e5]
    unfold kvI
    rw [List.map_append, List.map_append]
    rfl
  · have e : j = as.length := by omega
    subst e
    have stp := w.stops H2 (g2.b.trans g2.i)
    rw [hlen] at stp
    rw [List.take_length] at h2
    exact .inl ⟨stp, k p _ B2 H2 n0 ((s1.go g2).setObj z2 h2 (fun _ => nofun) rfl (fun _ _ _ _ h => h) (fun q => nomatch q))⟩
/-- for x in d: d locked -/
theorem s_forK {i j : Nat} {a : Addr} {od : Obj} {kvs : List (Int × Int)} (s : Sta none B0 H0 Bk ρ σ B H) (Inv : Nat → List Sl → Prop) (hinv : ∀ t ρ', Inv t ρ' → ρ'[i]? = some (.obj a (fz od kvs))) (h0 : Inv 0 ρ)
    (hs : ∀ t p ρ' σ' B' H' Nx, kvs[t]? = some p → Inv t ρ' → Sta none B0 H0 Bk (ρ'.set j (.dat (.int p.1))) σ' B' H' → (∀ ρ2 σ2 B2 H2, Inv (t + 1) ρ2 → Sta none B0 H0 Bk ρ2 σ2 B2 H2 → Nx σ2 H2) → tu { Dn with nx := Nx, ct := Nx, bk := Dn.nx } σ' H')
    (hd : ∀ ρ' σ' B' H', Inv kvs.length ρ' → Sta none B0 H0 Bk ρ' σ' B' H' → Dn.nx σ' H') : tFor (iKeys (tVar i)) (gName j) tu Dn σ H := by
  obtain ⟨e1, z, ⟨u, hx, nl, rfl⟩, mo, nd⟩ := s.rl.obj (hinv 0 ρ h0)
  have hl : (kvI kvs).length = kvs.length := by unfold kvI; rw [List.length_map]
  refine ⟨.ref a, e1, a, od, rfl, .inl ⟨kvI kvs, hx, ?_⟩⟩
  refine ⟨fun t m σ H => m = kvs.length - t ∧ t ≤ kvs.length ∧ ∃ ρ' B', Inv t ρ' ∧ Sta none B0 H0 Bk ρ' σ B' H, ⟨_, rfl, Nat.zero_le _, ρ, B, h0, s⟩, ?_⟩
  rintro t m σ1 H1 ⟨rfl, ht, ρ', B', iv, st⟩
  obtain ⟨e2, z2, ⟨u2, hx2, nl2, rfl⟩, _⟩ := st.rl.obj (hinv t ρ' iv)
  by_cases hlt : t < kvs.length
  · refine .inr ⟨⟨hx2, by rw [hl]; exact hlt⟩, fun σ' H' => ∃ ρ' B', Inv (t + 1) ρ' ∧ Sta none B0 H0 Bk ρ' σ' B' H', fun σ' H' h => ⟨_, by omega, rfl, by omega, h⟩, ?_⟩
    rintro x H3 ⟨rfl, kk, vv, hk, rfl⟩
    have ha : kvs[t]? = some kvs[t] := List.getElem?_eq_getElem hlt
    have hk2 : (kvI kvs)[t]? = some (Sum.inl kvs[t].1, V.int kvs[t].2) := by
      unfold kvI
      rw [List.getElem?_map, ha]
      rfl
    rw [hk2] at hk
    obtain ⟨rfl, rfl⟩ := Prod.mk.inj (Option.some.inj hk)
    exact hs t _ ρ' _ B' H3 _ ha iv (st.set (v := .int kvs[t].1) rfl) fun ρ2 σ2 B2 H2 i2 s2 => ⟨ρ2, B2, i2, s2⟩
  · have e : t = kvs.length := by omega
    subst e
    exact .inl ⟨⟨hx2, by rw [hl]; exact Nat.le_refl _⟩, hd ρ' σ1 B' H1 iv st⟩
end
def brkP (wish : PySem.Str) (a b : Case) : Bool := pbB wish (bitsL a.1) (bitsL b.1) (bitsL a.2) (bitsL b.2)
def brkB (wish : PySem.Str) (cs : List Case) : Bool := cs.any fun a => cs.any fun b => brkP wish a b
/-- a table of these cases, for first_break -/
structure TblOk (n : Nat) (cs : List Case) : Prop where
  n1 : 1 ≤ n
  n2 : n ≤ 5
  good : ∀ c ∈ cs, GoodC (n : Int) c
  lots : cs.map (·.1) = (allLots n).drop 1
theorem bits_facts : ∀ n, 1 ≤ n → n ≤ 5 → ((allLots n).map bitsL).Nodup ∧ ((allLots n).all fun A => decide (Builtin.Int.intBits (bitsL A) ≤ 1000)) = true := by
  intro n h1 h2
  match n, h1, h2 with
  | 1, _, _ => decide +kernel
  | 2, _, _ => decide +kernel
  | 3, _, _ => decide +kernel
  | 4, _, _ => decide +kernel
  | 5, _, _ => decide +kernel
theorem EAP.imp {D : Option Addr} {ta : TA} {ρ : List Sl} {P P' : List Dt → Prop} (h : EAP D ta ρ P) (w : ∀ d, P d → P' d) : EAP D ta ρ P' := fun σ B H r Q q => h σ B H r Q fun v d B2 H2 p => q v d B2 H2 (w d p)
theorem s_retS {D : Option Addr} {B0 H0 Bk B H : Hp} {ρ : List Sl} {σ : L2.St} {te : TE} {P : Dt → Prop} {Dn : Ends} (s : Sta D B0 H0 Bk ρ σ B H) (h : EVP D te ρ P) (k : ∀ v d B2 H2, P d → Sta D B0 H0 Bk ρ σ B2 H2 → Has d v B2 → Dn.rt v H2) : tRet te Dn σ H :=
  h σ B H s.rl _ fun v d B2 H2 p g hv => k v d B2 H2 p (s.go g) hv
theorem et_pb {ρ : List Sl} {i1 i2 i3 i4 : Nat} {wish : PySem.Str} {a b one other : Int} {dp : Addr} {od : Obj} {kvs : List (Int × Int)} (hw : wish = "heritage" ∨ wish = "outcast") (h1 : ρ[i1]? = some (.dat (.str wish))) (h2 : ρ[i2]? = some (.dat (.int a))) (h3 : ρ[i3]? = some (.dat (.int b)))
    (h4 : ρ[i4]? = some (.obj dp (fz od kvs))) (ha : valV (kvI kvs) (Sum.inl a) = some (.int one)) (hb : valV (kvI kvs) (Sum.inl b) = some (.int other)) :
    ET none (tB (tCall spPB [] E0 (tCons (tVar i1) (tCons (tVar i2) (tCons (tVar i3) (tCons (tVar i4) tNil)))))) ρ (pbB wish a b one other) := fun σ B H l Q q => by
  obtain ⟨v1, e1, q1⟩ := l.dat h1
  obtain ⟨v2, e2, q2⟩ := l.dat h2
  obtain ⟨v3, e3, q3⟩ := l.dat h3
  obtain ⟨e4, z, ⟨u, hx, nl, rfl⟩, mo, nd⟩ := l.obj h4
  refine ⟨v1, e1, v2, e2, v3, e3, .ref dp, e4, wish, a, b, one, other, dp, od, kvs, B, ?_, hw, l.ex, z, hx, ha, hb, fun B2 H2 g => ⟨_, rfl, q _ B2 H2 rfl g⟩⟩
  rw [show v1 = .str wish from q1, show v2 = .int a from q2, show v3 = .int b from q3]
  rfl
theorem ev_notInS {D : Option Addr} {ρ : List Sl} {ta : TE} {a : Addr} {ys : List PySem.Str} {x : PySem.Str} (hs : ∀ H, SqT K H a (ys.map V.str)) (h : EV D ta ρ (.str x)) (hx : (ys.any fun y => eqV (.str y) (.str x)) = true) : EV D (tOp (rIn K true) ta (tC (.ref a))) ρ (.bl false) := fun σ B H l Q q => h σ B H l _ fun v d B1 H1 pd g1 hv => by
  subst pd
  have e : v = .str x := hv
  subst e
  refine ⟨a, _, rfl, .inr (hs _), rfl, ?_, ?_⟩
  · rw [List.all_map]
    exact List.all_eq_true.mpr fun _ _ => rfl
  · have z : inV (.str x) (ys.map V.str) = true := by
      unfold inV
      rw [List.any_map]
      exact hx
    show Q (.bl (!inV (.str x) (ys.map V.str))) H1
    rw [z]
    exact q _ _ B1 H1 rfl g1 rfl
abbrev nm_first_break : List PySem.Str := [("table" : PySem.Str), ("wish" : PySem.Str), ("chosen" : PySem.Str), ("a" : PySem.Str), ("b" : PySem.Str), ("lot" : PySem.Str), ("told" : PySem.Str)]
abbrev ps_first_break : List PySem.Str := [("table" : PySem.Str), ("wish" : PySem.Str)]
theorem sc_first_break : FnScope nm_first_break ps_first_break (defScope st_first_break) := ⟨rfl, rfl, rfl, by decide +kernel, rfl, by decide +kernel, by decide +kernel⟩
/- slots: 0:table 1:wish 2:chosen 3:a 4:b 5:lot 6:told -/
theorem ok_first_break (T : Tx K mg) : OkF P w K mg base CX0 "first_break" 3 ps_first_break
    (PF (fun p : Nat × List Case × PySem.Str => TblOk p.1 p.2.1 ∧ (p.2.2 = "heritage" ∨ p.2.2 = "outcast")) (fun p => [tblD K (p.1 : Int) p.2.1, .str p.2.2]) (fun p r => isN r = !brkB p.2.2 p.2.1)) := by
  refine Df.ok T.d_first_break sc_first_break (fun _ _ _ _ _ _ us hl => match us, hl with | [_, _], _ => rfl) (pf_len fun _ => rfl) (fun cdv A outer s H vs Q E hr h => ?_)
  obtain ⟨⟨n, cs, wish⟩, B, ⟨ht, hw⟩, e, st, k⟩ := pf_open (N := nm_first_break) h
  dsimp only at ht hw k st
  obtain ⟨bn, bf⟩ := bits_facts n ht.n1 ht.n2
  have lf := lay_facts n ht.n1 ht.n2
  have n2 := ht.n2
  have clen : cs.length ≤ 32 := by
    have := congrArg List.length ht.lots
    rw [List.length_map, List.length_drop] at this
    have := lf.2.2.1
    omega
  have hk : (cs.map fun c => bitsL c.1).Nodup := by
    have e1 : (cs.map fun c => bitsL c.1) = ((allLots n).drop 1).map bitsL := by
      rw [← ht.lots, List.map_map]
      rfl
    rw [e1, List.map_drop]
    exact bn.sublist (List.drop_sublist _ _)
  have hkv : ((cs.map fun c => (bitsL c.1, bitsL c.2)).map (·.1)).Nodup := by
    rw [List.map_map]
    exact hk
  have hib : ∀ c ∈ cs, Builtin.Int.intBits (bitsL c.1) ≤ 1000 := fun c hc => by
    have m : c.1 ∈ allLots n := by
      have m1 : c.1 ∈ cs.map (·.1) := List.mem_map_of_mem hc
      rw [ht.lots] at m1
      exact List.mem_of_mem_drop m1
    exact of_decide_eq_true (List.all_eq_true.mp bf _ m)
  have lotF : ∀ A, Lot (n : Int) A → A.length ≤ 1000 ∧ ∀ x ∈ A, 0 ≤ x ∧ x < 1000 := fun A hA => by
    have := hA.len12 (by omega)
    exact ⟨by omega, fun x hx => by have := hA.bd x hx; omega⟩
  have hin : (["heritage", "unite", "outcast", "cross", "arrow", "single"] : List PySem.Str).any (fun y => eqV (.str y) (.str wish)) = true := by
    rcases hw with rfl | rfl <;> decide +kernel
  refine ⟨_, PSs.nox (pss_cons (ps_if (pt_cmpR (op_notIn_k (K := K)) (pv 1) (pe_glob (v := .ref (He.ga K "WISHES")) rfl T.WISHES_mg rfl) (by rfl)) (pss_one ps_never) pss_nil)
      (pss_cons (ps_setDc (i := 2) (own := [("lot", 5), ("told", 6)]) rfl sc_first_break.nd rfl rfl (sw_trueD rfl rfl rfl (by decide +kernel)) (pi_seq_k (K := K) (pe_fld_k (K := K) (pv 0))) (blkOk_by (N := nm_first_break) (sc := (defScope st_first_break)) (by decide +kernel)) (fun _ _ _ _ _ => (pg_tup_k (K := K) (n := 2) rfl (pgs_cons (pg_name (i := 5) sc_first_break.nd rfl (Or.inl rfl)) (pgs_cons (pg_name (i := 6) sc_first_break.nd rfl (Or.inl rfl)) pgs_nil)))) (fun _ _ _ _ _ => pts_nil) (fun _ _ _ _ _ => (pe_callO (ok_lot_bits T) (hr.mono (by decide)) (pa_cons (pv 5) pa_nil))) (fun _ _ _ _ _ => (pe_callO (ok_lot_bits T) (hr.mono (by decide)) (pa_cons (pv 6) pa_nil))))
      (pss_cons (ps_lock (ps_for PassesOwn.never rfl (pi_keys (pv 2)) (pg_name (i := 3) sc_first_break.nd rfl (Or.inl rfl)) (pss_one (ps_for PassesOwn.never rfl (pi_keys (pv 2)) (pg_name (i := 4) sc_first_break.nd rfl (Or.inl rfl)) (pss_one (ps_if (pt_val (pe_callO (ok_pair_breaks T) (hr.mono (by decide)) (pa_cons (pv 1) (pa_cons (pv 3) (pa_cons (pv 4) (pa_cons (pv 2) pa_nil)))))) (pss_one (ps_ret (pe_tup (pa_cons (pe_callO (ok_bits_lot T) (hr.mono (by decide)) (pa_cons (pv 3) pa_nil)) (pa_cons (pe_callO (ok_bits_lot T) (hr.mono (by decide)) (pa_cons (pv 4) pa_nil)) pa_nil))))) pss_nil))))))
      (pss_one (ps_ret pe_non))))), ?_⟩
  refine q_noF st (et_test (ev_notInS (ys := ["heritage", "unite", "outcast", "cross", "arrow", "single"]) T.wishes (ev_var (i := 1)) hin)) rfl fun B1 H1 st1 => ?_
  refine q_dcI caseD (fun c => [(5, lotD c.1), (6, lotD c.2)]) cs st1 e (ei_seqA (ev_fldTP (ev_var (i := 0)) T.c_table T.n_table_p) (.inr rfl)) (fun _ _ => eg_two) (by intro a _ j hj; simpa using hj) (fun c => bitsL c.1) (fun c => bitsL c.2)
    (fun c hc => EVP.imp (ev_call c.1 (lotF _ (ht.good c hc).l) (ea_one (ev_var (i := 5)))) fun d z => z) (fun c hc => EVP.imp (ev_call c.2 (lotF _ (ht.good c hc).a) (ea_one (ev_var (i := 6)))) fun d z => z) hk (by omega) fun dp σ2 B2 H2 hdp st2 => ?_
  -- the loops, the dict locked
  obtain ⟨e1, z, ⟨u, hx, nl, rfl⟩, mo, nd⟩ := st2.rl.obj (i := 2) rfl
  refine ⟨dp, _, hx, trivial, fun od => ?_⟩
  have st3 := st2.putObj (i := 2) (φ' := fz od (cs.map fun c => (bitsL c.1, bitsL c.2))) (u := .frz od (.dK (kvI (cs.map fun c => (bitsL c.1, bitsL c.2))))) rfl hdp (only_of rfl) (fun _ => nofun) rfl (fun _ _ _ _ h => h)
  have vv : ∀ c ∈ cs, valV (kvI (cs.map fun c => (bitsL c.1, bitsL c.2))) (Sum.inl (bitsL c.1) : L2.Key) = some (.int (bitsL c.2)) := fun c hc => valV_kvI (p := (bitsL c.1, bitsL c.2)) hkv (List.mem_map_of_mem (f := fun c : Case => (bitsL c.1, bitsL c.2)) hc)
  generalize hkvs : (cs.map fun c => (bitsL c.1, bitsL c.2)) = kvs at st3 vv hx
  have kl : kvs.length = cs.length := by rw [← hkvs, List.length_map]
  have kg : ∀ (t : Nat) p, kvs[t]? = some p → ∃ c, cs[t]? = some c ∧ p = (bitsL c.1, bitsL c.2) := fun t p hp => by
    rw [← hkvs, List.getElem?_map] at hp
    obtain ⟨c, h1, h2⟩ := Option.map_eq_some_iff.mp hp
    exact ⟨c, h1, h2.symm⟩
  have back : ∀ {ρ' σ' B' H'}, ρ'[2]? = some (.obj dp (fz od kvs)) → Sta none B H B ρ' σ' B' H' → H' dp = some (.frz od (.dK (kvI kvs))) ∧ Gr none B H B' (upd H' dp (.dK (kvI kvs))) := fun {ρ' σ' B' H'} h s => by
    obtain ⟨e2, z2, ⟨u2, hx2, nl2, rfl⟩, _⟩ := s.rl.obj h
    exact ⟨hx2, s.gr.mut hdp z2⟩
  refine s_forK (i := 2) (j := 3) (a := dp) (od := od) (kvs := kvs) st3 (fun t ρ' => ρ' = [.dat (tblD K (n : Int) cs), .dat (.str wish), .obj dp (fz od kvs), .any, .any, .any, .any] ∧ ∀ (t' : Nat) a, t' < t → cs[t']? = some a → ∀ b ∈ cs, brkP wish a b = false) (fun t ρ' h => by rw [h.1]; rfl) ⟨rfl, fun t' a h => absurd h (Nat.not_lt_zero _)⟩ ?_ ?_
  · rintro t p ρ' σ' B4 H4 Nx hp ⟨rfl, iv⟩ st4 hN
    obtain ⟨a, hca, rfl⟩ := kg t p hp
    have ha := List.mem_of_getElem? hca
    refine s_forK (i := 2) (j := 4) (a := dp) (od := od) (kvs := kvs) st4 (fun u ρ' => ρ' = [.dat (tblD K (n : Int) cs), .dat (.str wish), .obj dp (fz od kvs), .dat (.int (bitsL a.1)), .any, .any, .any] ∧ ∀ (u' : Nat) b, u' < u → cs[u']? = some b → brkP wish a b = false) (fun t ρ' h => by rw [h.1]; rfl) ⟨rfl, fun t' a h => absurd h (Nat.not_lt_zero _)⟩ ?_ ?_
    · rintro u p ρ' σ' B5 H5 Nx2 hp2 ⟨rfl, iv2⟩ st5 hN2
      obtain ⟨b, hcb, rfl⟩ := kg u p hp2
      have hb := List.mem_of_getElem? hcb
      refine s_if st5 (et_pb (i1 := 1) (i2 := 3) (i3 := 4) (i4 := 2) hw rfl rfl rfl rfl (vv a ha) (vv b hb)) (fun hbr B6 H6 st6 => ?_) (fun hbr B6 H6 st6 => ?_)
      · refine s_retS (P := fun d => isN d = false) st6 (EVP.imp (evp_tup (Pr := fun l => l.length ≤ 2) (EAP.imp (eap_cons (ev_call (bitsL a.1) (hib a ha) (ea_one (ev_var (i := 3)))) (eap_cons (ev_call (bitsL b.1) (hib b hb) (ea_one (ev_var (i := 4)))) ea_nil)) (fun l h => ?_)) (fun l h => by omega)) fun d h => ?_) fun v d B7 H7 pd st7 hv => ?_
        · obtain ⟨x, r, _, ⟨y, r2, _, rfl, rfl⟩, rfl⟩ := h
          exact Nat.le_refl _
        · obtain ⟨l, _, rfl⟩ := h
          rfl
        · obtain ⟨h1, h2⟩ := back rfl st7
          refine ⟨h1, k v d B7 _ ?_ h2 hv⟩
          have z : brkB wish cs = true := List.any_eq_true.mpr ⟨a, ha, List.any_eq_true.mpr ⟨b, hb, hbr⟩⟩
          rw [z]
          exact pd
      · refine hN2 _ _ _ _ ⟨rfl, fun u' b' hu hb' => ?_⟩ (st6.weak (.same (.same (.same (.same (.any (.any (.any .nil))))))))
        by_cases q : u' = u
        · rw [q, hcb] at hb'
          cases hb'
          exact hbr
        · exact iv2 u' b' (by omega) hb'
    · rintro ρ' σ' B5 H5 ⟨rfl, iv2⟩ st5
      refine hN _ _ _ _ ⟨rfl, fun t' a' ht' ha' b' hb' => ?_⟩ (st5.weak (.same (.same (.same (.any (.any (.any (.any .nil))))))))
      by_cases q : t' = t
      · rw [q, hca] at ha'
        cases ha'
        obtain ⟨u', hu, e⟩ := List.mem_iff_getElem.mp hb'
        exact iv2 u' b' (by rw [kl]; exact hu) (by rw [List.getElem?_eq_getElem hu, e])
      · exact iv t' a' (by omega) ha' b' hb'
  · rintro ρ' σ' B4 H4 ⟨rfl, iv⟩ st4
    obtain ⟨h1, h2⟩ := back rfl st4
    refine ⟨h1, ?_⟩
    refine k .non .non B4 _ ?_ h2 rfl
    have z : brkB wish cs = false := by
      unfold brkB
      rw [List.any_eq_false]
      intro a ha
      rw [Bool.not_eq_true, List.any_eq_false]
      intro b hb
      rw [Bool.not_eq_true]
      obtain ⟨t, ht', e⟩ := List.mem_iff_getElem.mp ha
      exact iv t a (by rw [kl]; exact ht') (by rw [List.getElem?_eq_getElem ht', e]) b hb
    rw [z]
    rfl
abbrev nm_has_wish : List PySem.Str := [("table" : PySem.Str), ("wish" : PySem.Str)]
abbrev ps_has_wish : List PySem.Str := [("table" : PySem.Str), ("wish" : PySem.Str)]
theorem sc_has_wish : FnScope nm_has_wish ps_has_wish (defScope st_has_wish) := ⟨rfl, rfl, rfl, by decide +kernel, rfl, by decide +kernel, by decide +kernel⟩
/- slots: 0:table 1:wish -/
theorem ok_has_wish (T : Tx K mg) : OkF P w K mg base CX0 "has_wish" 4 ps_has_wish
    (PF (fun p : Nat × List Case × PySem.Str => TblOk p.1 p.2.1 ∧ (p.2.2 = "heritage" ∨ p.2.2 = "outcast")) (fun p => [tblD K (p.1 : Int) p.2.1, .str p.2.2]) (fun p r => r = .bl (!brkB p.2.2 p.2.1))) := by
  refine Df.ok T.d_has_wish sc_has_wish (fun _ _ _ _ _ _ us hl => match us, hl with | [_, _], _ => rfl) (pf_len fun _ => rfl) (fun cdv A outer s H vs Q E hr h => ?_)
  obtain ⟨⟨n, cs, wish⟩, B, ⟨ht, hw⟩, e, st, k⟩ := pf_open (N := nm_has_wish) h
  dsimp only at ht hw k st
  refine ⟨_, PSs.nox (pss_one (ps_ret (pe_cmp (pc_isN (pe_callO (ok_first_break T) (hr.mono (by decide)) (pa_cons (pv 0) (pa_cons (pv 1) pa_nil)))) rfl))), ?_⟩
  refine s_ret st (evp_isN (ev_call (n, cs, wish) ⟨ht, hw⟩ (ea_cons (ev_var (i := 0)) (ea_one (ev_var (i := 1)))))) fun v d B2 H2 p g hv => k v d B2 H2 ?_ g hv
  obtain ⟨x, hx, rfl⟩ := p
  rw [show isN x = !brkB wish cs from hx]
theorem hasL_strs : ∀ {ns : List PySem.Str} {H : Hp}, HasL (ns.map Dt.str) (ns.map V.str) H
  | [], _ => rfl
  | n :: ns, H => ⟨.str n, ns.map V.str, rfl, rfl, hasL_strs⟩
theorem ei_kw {D : Option Addr} {ρ : List Sl} {tb : TE} {t : Addr} (hd : KDct K w (He.ga K "KIND_WISHES") "orders" (.ref t)) (ht : ∀ H, SqT K H t [.str "heritage", .str "outcast"]) (h : EV D tb ρ (.str "orders")) :
    EI D (iSeqA K (tOp (rIxD K w) (tC (.ref (He.ga K "KIND_WISHES"))) tb)) ρ [.str "heritage", .str "outcast"] := fun σ B H l R q => h σ B H l _ fun v x B1 H1 px g1 hv => by
  subst px
  have e : v = .str "orders" := hv
  subst e
  refine ⟨_, _, _, rfl, rfl, hd, t, _, rfl, .inr ⟨ht H1, q _ _ B1 H1 rfl g1 ?_⟩⟩
  have hl : ∀ B, HasL [.str "heritage", .str "outcast"] [.str "heritage", .str "outcast"] B := fun B => hasL_strs (ns := ["heritage", "outcast"])
  exact {
    goes := fun i H hi e => ⟨_, [V.str "heritage", V.str "outcast"][i]'hi, ht H, by simp⟩
    stops := fun H e => ⟨_, ht H, Nat.le_refl _⟩
    yields := fun i B1 H x H' hi e1 e2 y => by
      obtain ⟨rfl, y⟩ := y
      obtain ⟨d, q, hd⟩ := (hl B1).get (y _ (ht H'))
      exact ⟨d, B1, q, fun D => Gr.refl e2, hd⟩ }
abbrev nm_is_kind : List PySem.Str := [("table" : PySem.Str), ("kind" : PySem.Str), ("wish" : PySem.Str)]
abbrev ps_is_kind : List PySem.Str := [("table" : PySem.Str), ("kind" : PySem.Str)]
theorem sc_is_kind : FnScope nm_is_kind ps_is_kind (defScope st_is_kind) := ⟨rfl, rfl, rfl, by decide +kernel, rfl, by decide +kernel, by decide +kernel⟩
/- slots: 0:table 1:kind 2:wish -/
theorem ok_is_kind (T : Tx K mg) (W : Tw K w) : OkF P w K mg base CX0 "is_kind" 5 ps_is_kind
    (PF (fun p : Nat × List Case => TblOk p.1 p.2) (fun p => [tblD K (p.1 : Int) p.2, .str "orders"]) (fun p r => r = .bl (!brkB "heritage" p.2 && !brkB "outcast" p.2))) := by
  refine Df.ok T.d_is_kind sc_is_kind (fun _ _ _ _ _ _ us hl => match us, hl with | [_, _], _ => rfl) (pf_len fun _ => rfl) (fun cdv A outer s H vs Q E hr h => ?_)
  obtain ⟨⟨n, cs⟩, B, ht, e, st, k⟩ := pf_open (N := nm_is_kind) h
  dsimp only at ht k st
  obtain ⟨t, hd, htt⟩ := W.kw
  refine ⟨_, PSs.nox (pss_cons (ps_if (pt_cmpR (op_notIn_k (K := K)) (pv 1) (pe_glob (v := .ref (He.ga K "KINDS")) rfl T.KINDS_mg rfl) (by rfl)) (pss_one ps_never) pss_nil)
      (pss_one (ps_ret (pe_callB (cr_all_k (K := K) rfl) (by rfl) T.b_all boot_all (pa_cons (pe_lc (own := [("wish", 2)]) rfl sc_is_kind.nd (pi_seq_k (K := K) (pe_ix ix_kdict (pe_glob (v := .ref (He.ga K "KIND_WISHES")) rfl T.KIND_WISHES_mg rfl) (pv 1) (fun _ _ => rfl))) (blkOk_by (N := nm_is_kind) (sc := (defScope st_is_kind)) (by decide +kernel)) (fun _ _ _ _ _ => (pg_name (i := 2) sc_is_kind.nd rfl (Or.inl rfl))) (fun _ _ _ _ _ => pts_nil) (fun _ _ _ _ _ => (pe_callO (ok_has_wish T) (hr.mono (by decide)) (pa_cons (pv 0) (pa_cons (pv 2) pa_nil))))) pa_nil))))), ?_⟩
  refine q_noF st (et_test (ev_notInS (ys := ["ringless", "orders", "parts", "stretches", "rank", "strict"]) T.kinds (ev_var (i := 1)) (by decide +kernel))) rfl fun B1 H1 st1 => ?_
  refine s_ret st1 (EV.to (ev_all (bs := [!brkB "heritage" cs, !brkB "outcast" cs]) (EO.ev (EO.to (eo_lcm (fun x : PySem.Str => Dt.str x) (fun x => [(2, .str x)]) ["heritage", "outcast"] (ei_kw hd htt (ev_var (i := 1))) (by decide) (fun _ _ => eg_name) (by intro a _ j hj; simpa using hj)
    (fun x => Dt.bl (!brkB x cs)) (fun x hx => EVP.imp (ev_call (n, cs, x) ⟨ht, ?_⟩ (ea_cons (ev_var (i := 0)) (ea_one (ev_var (i := 2))))) fun d z => z)) rfl))) ?_) k
  · simpa using hx
  · show Dt.bl (_ && (_ && true)) = _
    rw [Bool.and_true]
    rfl
end
end K37
/-! K37W: deep equality; the law's plain defs -/
namespace K37
open PySem PyProof.Rows L2
open Evl (Ex)
/-! ### deep equality -/
mutual
def toP : Dt → PyData
  | .non => .none
  | .bl b => .bool b
  | .int i => .int i
  | .str x => .str x
  | .tup ds => .tuple (toPL ds)
  | .lst ds => .list (toPL ds)
  | .told _ _ _ => .none
  | .tbl _ _ _ _ => .none
def toPL : List Dt → List PyData
  | [] => []
  | d :: ds => toP d :: toPL ds
end
mutual
def shD : Dt → Nat → Bool
  | .non, _ => true
  | .bl _, _ => true
  | .int _, _ => true
  | .str x, _ => SeqAt.shaped (.str x)
  | .tup ds, k + 1 => shDL ds k
  | .lst ds, k + 1 => shDL ds k
  | .tup _, 0 => false
  | .lst _, 0 => false
  | .told _ _ _, _ => false
  | .tbl _ _ _ _, _ => false
def shDL : List Dt → Nat → Bool
  | [], _ => true
  | d :: ds, k => shD d k && shDL ds k
end
theorem shDL_all {k : Nat} : ∀ {ds : List Dt}, (∀ d ∈ ds, shD d k = true) → shDL ds k = true
  | [], _ => rfl
  | d :: ds, h => by
    show (shD d k && shDL ds k) = true
    rw [h d List.mem_cons_self, shDL_all fun e he => h e (List.mem_cons_of_mem _ he)]
    rfl
mutual
theorem dp_of {K : PySem.W.Frag} {B H : Hp} (e : Ex B H) : ∀ (d : Dt) (k : Nat) (v : V), shD d k = true → Has d v B → Dp K H v (toP d)
  | .non, _, v, _, h => by
    rw [show v = .non from h]
    exact .non
  | .bl b, _, v, _, h => by
    rw [show v = .bl b from h]
    exact .bl b
  | .int b, _, v, _, h => by
    rw [show v = .int b from h]
    exact .int b
  | .str b, _, v, _, h => by
    rw [show v = .str b from h]
    exact .str b
  | .tup ds, k + 1, v, s, h => by
    obtain ⟨a, xs, rfl, ha, hl⟩ := h
    exact .tup (SqT.of (e a _ ha)) (dpl_of e ds k xs s hl)
  | .lst ds, k + 1, v, s, h => by
    obtain ⟨a, xs, rfl, ha, hl⟩ := h
    exact .lst (SqL.of (e a _ ha)) (dpl_of e ds k xs s hl)
  | .tup _, 0, _, s, _ => by cases s
  | .lst _, 0, _, s, _ => by cases s
  | .told _ _ _, _, _, s, _ => by cases s
  | .tbl _ _ _ _, _, _, s, _ => by cases s
theorem dpl_of {K : PySem.W.Frag} {B H : Hp} (e : Ex B H) : ∀ (ds : List Dt) (k : Nat) (xs : List V), shDL ds k = true → HasL ds xs B → DpAll K H xs (toPL ds)
  | [], _, xs, _, h => by
    cases (show xs = [] from h)
    exact .nil
  | d :: ds, k, xs, s, h => by
    obtain ⟨x, r, rfl, h1, h2⟩ := h
    have s' : (shD d k && shDL ds k) = true := s
    rw [Bool.and_eq_true] at s'
    exact .cons (dp_of e d k x s'.1 h1) (dpl_of e ds k r s'.2 h2)
end
mutual
theorem lay_of : ∀ (d : Dt) (k : Nat), shD d k = true → (toP d).canLay0 = true ∧ (toP d).depth ≤ k
  | .non, _, _ => ⟨rfl, Nat.zero_le _⟩
  | .bl _, _, _ => ⟨rfl, Nat.zero_le _⟩
  | .int _, _, _ => ⟨rfl, Nat.zero_le _⟩
  | .str x, k, h => by
    have h' : SeqAt.shaped (.str x) = true := h
    exact ⟨SeqAt.canLay_of_shaped h', Nat.zero_le _⟩
  | .tup ds, k + 1, h => by
    have z := layL_of ds k h
    exact ⟨z.1, Nat.succ_le_succ z.2⟩
  | .lst ds, k + 1, h => by
    have z := layL_of ds k h
    exact ⟨z.1, Nat.succ_le_succ z.2⟩
  | .tup _, 0, s => by cases s
  | .lst _, 0, s => by cases s
  | .told _ _ _, _, s => by cases s
  | .tbl _ _ _ _, _, s => by cases s
theorem layL_of : ∀ (ds : List Dt) (k : Nat), shDL ds k = true → PyData.canLayAll0 (toPL ds) = true ∧ PyData.depthAll (toPL ds) ≤ k
  | [], _, _ => ⟨rfl, Nat.zero_le _⟩
  | d :: ds, k, s => by
    have s' : (shD d k && shDL ds k) = true := s
    rw [Bool.and_eq_true] at s'
    have z1 := lay_of d k s'.1
    have z2 := layL_of ds k s'.2
    refine ⟨?_, Nat.max_le.mpr ⟨z1.2, z2.2⟩⟩
    show ((toP d).canLay0 && PyData.canLayAll0 (toPL ds)) = true
    rw [z1.1, z2.1]
    rfl
end
theorem shaped_of {d : Dt} {k : Nat} (h : shD d k = true) (hk : k ≤ 64) : SeqAt.shaped (toP d) = true := by
  have z := lay_of d k h
  unfold SeqAt.shaped
  rw [z.1, decide_eq_true (Nat.le_trans z.2 hk)]
  rfl
section
variable {D : Option Addr} {ρ : List Sl} {ta tb : TE} {d e : Dt} {K : PySem.W.Frag}
theorem ev_eqD (k : Nat) (hk : k ≤ 64) (ha : EV D ta ρ d) (hb : EV D tb ρ e) (h1 : shD d k = true) (h2 : shD e k = true) : EV D (tOp (rEqD K) ta tb) ρ (.bl (PyData.eqv (toP d) (toP e))) := ev_op ha hb (rd_of fun v w B H ex hx hy Q q =>
  ⟨_, _, dp_of ex d k v h1 hx, dp_of ex e k w h2 hy, shaped_of h1 hk, shaped_of h2 hk, q _ rfl⟩)
theorem ev_neD (k : Nat) (hk : k ≤ 64) (ha : EV D ta ρ d) (hb : EV D tb ρ e) (h1 : shD d k = true) (h2 : shD e k = true) : EV D (tOp (rNeD K) ta tb) ρ (.bl (!PyData.eqv (toP d) (toP e))) := ev_op ha hb (rd_of fun v w B H ex hx hy Q q =>
  ⟨_, _, dp_of ex d k v h1 hx, dp_of ex e k w h2 hy, shaped_of h1 hk, shaped_of h2 hk, q _ rfl⟩)
theorem ev_inD {ds : List Dt} (k : Nat) (hk : k + 1 ≤ 64) (ha : EV D ta ρ d) (hb : EV D tb ρ (.lst ds)) (h1 : shD d k = true) (h2 : shDL ds k = true) : EV D (tOp (rInD K) ta tb) ρ (.bl ((toPL ds).any fun z => PyData.eqv z (toP d))) := ev_op ha hb (rd_of fun v w B H ex hx hy Q q =>
  ⟨_, _, dp_of ex d k v h1 hx, dp_of ex (.lst ds) (k + 1) w h2 hy, shaped_of h1 (by omega), shaped_of (d := .lst ds) (k := k + 1) h2 hk, q _ rfl⟩)
theorem ev_notInD {ds : List Dt} (k : Nat) (hk : k + 1 ≤ 64) (ha : EV D ta ρ d) (hb : EV D tb ρ (.lst ds)) (h1 : shD d k = true) (h2 : shDL ds k = true) : EV D (tOp (rNotInD K) ta tb) ρ (.bl (!(toPL ds).any fun z => PyData.eqv z (toP d))) := ev_op ha hb (rd_of fun v w B H ex hx hy Q q =>
  ⟨_, _, dp_of ex d k v h1 hx, dp_of ex (.lst ds) (k + 1) w h2 hy, shaped_of h1 (by omega), shaped_of (d := .lst ds) (k := k + 1) h2 hk, q _ rfl⟩)
theorem eqv_self {k : Nat} (h : shD d k = true) : PyData.eqv (toP d) (toP d) = true := SeqAt.eqv_refl _ (lay_of d k h).1
end
theorem eqv_intsL : ∀ (A B : List Int), PyData.eqvAll (toPL (intsD A)) (toPL (intsD B)) = decide (A = B)
  | [], [] => rfl
  | [], _ :: _ => rfl
  | _ :: _, [] => rfl
  | a :: A, b :: B => by
    show ((a == b) && PyData.eqvAll (toPL (intsD A)) (toPL (intsD B))) = _
    rw [eqv_intsL A B]
    by_cases h : a = b
    · subst h
      simp
    · simp [h]
theorem eqv_lots (A B : List Int) : PyData.eqv (toP (lotD A)) (toP (lotD B)) = decide (A = B) := eqv_intsL A B
theorem toPL_map {α : Type} (f : α → Dt) : ∀ as : List α, toPL (as.map f) = as.map fun a => toP (f a)
  | [] => rfl
  | a :: as => congrArg (_ :: ·) (toPL_map f as)
theorem any_lots (A : List Int) (L : List (List Int)) : ((toPL (L.map lotD)).any fun z => PyData.eqv z (toP (lotD A))) = decide (A ∈ L) := by
  rw [toPL_map, List.any_map]
  rw [Bool.eq_iff_iff, List.any_eq_true, decide_eq_true_iff]
  constructor
  · rintro ⟨B, hB, h⟩
    have h' : PyData.eqv (toP (lotD B)) (toP (lotD A)) = true := h
    rw [eqv_lots] at h'
    exact (of_decide_eq_true h') ▸ hB
  · intro h
    exact ⟨A, h, by show PyData.eqv (toP (lotD A)) (toP (lotD A)) = true; rw [eqv_lots]; exact decide_eq_true rfl⟩
theorem shD_lot {A : List Int} {k : Nat} : shD (lotD A) (k + 1) = true := shDL_all fun d hd => by
  obtain ⟨i, _, rfl⟩ := List.mem_map.mp hd
  cases k <;> rfl
theorem shD_case {c : Case} {k : Nat} : shD (caseD c) (k + 2) = true := shDL_all (k := k + 1) fun d hd => by
  rcases List.mem_cons.mp hd with rfl | hd
  · exact shD_lot
  · have e : d = lotD c.2 := by simpa using hd
    rw [e]
    exact shD_lot
theorem shD_cases {cs : List Case} {k : Nat} : shD (casesT cs) (k + 3) = true := shDL_all (k := k + 2) fun d hd => by
  obtain ⟨c, _, rfl⟩ := List.mem_map.mp hd
  exact shD_case
section
variable {P : Program} {w : World} {K : PySem.W.Frag} {mg : PySem.Str → Option Value} {base : Heap}
abbrev nm__law_int : List PySem.Str := [("_law_value" : PySem.Str)]
abbrev ps__law_int : List PySem.Str := [("_law_value" : PySem.Str)]
theorem sc__law_int : FnScope nm__law_int ps__law_int (defScope st__law_int) := ⟨rfl, rfl, rfl, by decide +kernel, rfl, by decide +kernel, by decide +kernel⟩
/- slots: 0:_law_value -/
theorem ok__law_int (T : Tx K mg) : OkF P w K mg base CX0 "_law_int" 1 ps__law_int (PF (fun d : Dt => noObj d = true) (fun d => [d]) (fun d r => r = .bl (isI d))) := by
  refine Df.ok T.d__law_int sc__law_int (fun _ _ _ _ _ _ us hl => match us, hl with | [_], _ => rfl) (pf_len fun _ => rfl) (fun cdv A outer s H vs Q E hr h => ?_)
  obtain ⟨x, B, hx, e, st, k⟩ := pf_open (N := nm__law_int) h
  refine ⟨_, PSs.nox (pss_one (ps_ret (pe_and (pe_callB (call_isi_k (K := K)) (by rfl) T.b_isinstance boot_isinstance (pa_cons (pv 0) (pa_cons (pe_bltn (v := .ty "int") (by rfl) T.b_int boot_int rfl) pa_nil))) (pe_one (pe_not (pe_callB (call_isi_k (K := K)) (by rfl) T.b_isinstance boot_isinstance (pa_cons (pv 0) (pa_cons (pe_bltn (v := .ty "bool") (by rfl) T.b_bool boot_bool rfl) pa_nil)))))))), ?_⟩
  refine s_ret st (EVP.imp (ev_andV (ev_isi ev_var (kit_int hx) hx) (fun _ => ev_notV (ev_isi ev_var (kit_bool hx) hx))) fun d e => ?_) k
  rw [e]
  cases x <;> rfl
abbrev nm__law_common : List PySem.Str := [("_law_one" : PySem.Str), ("_law_other" : PySem.Str), ("_law_world" : PySem.Str)]
abbrev ps__law_common : List PySem.Str := [("_law_one" : PySem.Str), ("_law_other" : PySem.Str)]
theorem sc__law_common : FnScope nm__law_common ps__law_common (defScope st__law_common) := ⟨rfl, rfl, rfl, by decide +kernel, rfl, by decide +kernel, by decide +kernel⟩
/- slots: 0:_law_one 1:_law_other 2:_law_world -/
theorem ok__law_common (T : Tx K mg) : OkF P w K mg base CX0 "_law_common" 1 ps__law_common
    (PF (fun p : List Int × List Int => p.1.length ≤ 1000) (fun p => [lotD p.1, lotD p.2]) (fun p r => r = lotD (p.1.filter fun x => decide (x ∈ p.2)))) := by
  refine Df.ok T.d__law_common sc__law_common (fun _ _ _ _ _ _ us hl => match us, hl with | [_, _], _ => rfl) (pf_len fun _ => rfl) (fun cdv A outer s H vs Q E hr h => ?_)
  obtain ⟨⟨one, other⟩, B, h1, e, st, k⟩ := pf_open (N := nm__law_common) h
  dsimp only at h1 st k
  refine ⟨_, PSs.nox (pss_one (ps_ret (pe_callTy (call_tuple_k (K := K)) (by rfl) T.b_tuple boot_tuple (pa_cons (pe_lc (own := [("_law_world", 2)]) rfl sc__law_common.nd (pi_seq_k (K := K) (pv 0)) (blkOk_by (N := nm__law_common) (sc := (defScope st__law_common)) (by decide +kernel)) (fun _ _ _ _ _ => (pg_name (i := 2) sc__law_common.nd rfl (Or.inl rfl))) (fun _ _ _ _ _ => (pts_one (pt_cmpR (op_in_k (K := K)) (pv 2) (pv 1) (by rfl)))) (fun _ _ _ _ _ => (pv 2))) pa_nil)))), ?_⟩
  exact s_ret st (ev_tuple (EO.ev (eo_lc (f := Dt.int) (l := fun x => [(2, .int x)]) one (ei_seqA ev_var (.inr rfl)) (by omega) (fun _ _ => eg_name) (by intro a _ j hj; simpa using hj)
    (fun x => decide (x ∈ other)) (fun x _ => et_test (ev_in ev_var ev_var)) Dt.int (fun x _ _ => ev_var)))) k
def unionL (n : Nat) (A B : List Int) : List Int := (upto n).filter fun x => decide (x ∈ A) || decide (x ∈ B)
theorem union_perm {n : Nat} {A B : List Int} (hA : Lot (n : Int) A) (hB : Lot (n : Int) B) : (A ++ minusL B A).Perm (unionL n A B) := by
  refine (List.perm_ext_iff_of_nodup ?_ (upto_nodup.sublist List.filter_sublist)).mpr fun x => ?_
  · refine List.nodup_append.mpr ⟨hA.nodup, hB.nodup.sublist List.filter_sublist, fun a ha b hb e => ?_⟩
    subst e
    have := (List.mem_filter.mp hb).2
    simp [ha] at this
  · rw [List.mem_append, List.mem_filter, List.mem_filter, mem_upto]
    constructor
    · rintro (h | ⟨h, _⟩)
      · exact ⟨hA.bd x h, by simp [h]⟩
      · exact ⟨hB.bd x h, by simp [h]⟩
    · rintro ⟨_, h⟩
      rw [Bool.or_eq_true, decide_eq_true_iff, decide_eq_true_iff] at h
      by_cases hx : x ∈ A
      · exact .inl hx
      · exact .inr ⟨h.resolve_left hx, by simp [hx]⟩
theorem lot_union {n : Nat} {A B : List Int} : Lot (n : Int) (unionL n A B) := by
  have h : Lot (n : Int) (upto n) := by
    have := lot_upto (n := (n : Int)) (by omega)
    rwa [Int.toNat_natCast] at this
  exact h.filter _
abbrev nm__law_plus : List PySem.Str := [("_law_one" : PySem.Str), ("_law_other" : PySem.Str), ("_law_world" : PySem.Str)]
abbrev ps__law_plus : List PySem.Str := [("_law_one" : PySem.Str), ("_law_other" : PySem.Str)]
theorem sc__law_plus : FnScope nm__law_plus ps__law_plus (defScope st__law_plus) := ⟨rfl, rfl, rfl, by decide +kernel, rfl, by decide +kernel, by decide +kernel⟩
/- slots: 0:_law_one 1:_law_other 2:_law_world -/
theorem ok__law_plus (T : Tx K mg) : OkF P w K mg base CX0 "_law_plus" 1 ps__law_plus
    (PF (fun p : Nat × List Int × List Int => p.1 ≤ 12 ∧ Lot (p.1 : Int) p.2.1 ∧ Lot (p.1 : Int) p.2.2) (fun p => [lotD p.2.1, lotD p.2.2]) (fun p r => r = lotD (unionL p.1 p.2.1 p.2.2))) := by
  refine Df.ok T.d__law_plus sc__law_plus (fun _ _ _ _ _ _ us hl => match us, hl with | [_, _], _ => rfl) (pf_len fun _ => rfl) (fun cdv A outer s H vs Q E hr h => ?_)
  obtain ⟨⟨n, one, other⟩, B, ⟨hn, h1, h2⟩, e, st, k⟩ := pf_open (N := nm__law_plus) h
  dsimp only at hn h1 h2 st k
  have l1 := h1.len12 (by omega)
  have l2 := h2.len12 (by omega)
  have l3 : (other.filter fun x => !decide (x ∈ one)).length ≤ 12 := Nat.le_trans (List.length_filter_le _ _) l2
  refine ⟨_, PSs.nox (pss_one (ps_ret (pe_callTy (call_tuple_k (K := K)) (by rfl) T.b_tuple boot_tuple (pa_cons (pe_callB (cr_sorted_k (K := K)) (by rfl) T.b_sorted boot_sorted (pa_cons (pe_op op_cat (pe_callTy (call_list_k (K := K)) (by rfl) T.b_list boot_list (pa_cons (pv 0) pa_nil)) (pe_lc (own := [("_law_world", 2)]) rfl sc__law_plus.nd (pi_seq_k (K := K) (pv 1)) (blkOk_by (N := nm__law_plus) (sc := (defScope st__law_plus)) (by decide +kernel)) (fun _ _ _ _ _ => (pg_name (i := 2) sc__law_plus.nd rfl (Or.inl rfl))) (fun _ _ _ _ _ => (pts_one (pt_cmpR (op_notIn_k (K := K)) (pv 2) (pv 0) (by rfl)))) (fun _ _ _ _ _ => (pv 2)))) pa_nil)) pa_nil)))), ?_⟩
  refine s_ret st (ev_tuple (EO.ev (eo_sortedA (ns := one ++ minusL other one) (EO.ev (EO.to (ev_cat (EO.ev (eo_list ev_var (.inr rfl))) (EO.ev (eo_lc (f := Dt.int) (l := fun x => [(2, .int x)]) other (ei_seqA ev_var (.inr rfl)) (by omega) (fun _ _ => eg_name) (by intro a _ j hj; simpa using hj)
    (fun x => !decide (x ∈ one)) (fun x _ => et_test (ev_notIn ev_var ev_var)) Dt.int (fun x _ _ => ev_var))) ?_) (List.map_append (f := Dt.int)).symm)) (.inl rfl) (union_perm h1 h2) lot_union.le))) k
  rw [List.length_map, List.length_map]
  omega
abbrev nm__law_inside : List PySem.Str := [("_law_one" : PySem.Str), ("_law_other" : PySem.Str), ("_law_world" : PySem.Str)]
abbrev ps__law_inside : List PySem.Str := [("_law_one" : PySem.Str), ("_law_other" : PySem.Str)]
theorem sc__law_inside : FnScope nm__law_inside ps__law_inside (defScope st__law_inside) := ⟨rfl, rfl, rfl, by decide +kernel, rfl, by decide +kernel, by decide +kernel⟩
/- slots: 0:_law_one 1:_law_other 2:_law_world -/
theorem ok__law_inside (T : Tx K mg) : OkF P w K mg base CX0 "_law_inside" 1 ps__law_inside
    (PF (fun p : List Int × List Int => p.1.length ≤ 1000) (fun p => [lotD p.1, lotD p.2]) (fun p r => r = .bl (insideB p.1 p.2))) := by
  refine Df.ok T.d__law_inside sc__law_inside (fun _ _ _ _ _ _ us hl => match us, hl with | [_, _], _ => rfl) (pf_len fun _ => rfl) (fun cdv A outer s H vs Q E hr h => ?_)
  obtain ⟨⟨one, other⟩, B, h1, e, st, k⟩ := pf_open (N := nm__law_inside) h
  dsimp only at h1 st k
  refine ⟨_, PSs.nox (pss_one (ps_ret (pe_cmpR op_eq (pe_callB (call_len_k (K := K)) (by rfl) T.b_len boot_len (pa_cons (pe_lc (own := [("_law_world", 2)]) rfl sc__law_inside.nd (pi_seq_k (K := K) (pv 0)) (blkOk_by (N := nm__law_inside) (sc := (defScope st__law_inside)) (by decide +kernel)) (fun _ _ _ _ _ => (pg_name (i := 2) sc__law_inside.nd rfl (Or.inl rfl))) (fun _ _ _ _ _ => (pts_one (pt_cmpR (op_notIn_k (K := K)) (pv 2) (pv 1) (by rfl)))) (fun _ _ _ _ _ => (pv 2))) pa_nil)) pe_int (nomark _)))), ?_⟩
  refine s_ret st (EV.to (ev_eqI (ev_len (EO.ev (eo_lc (f := Dt.int) (l := fun x => [(2, .int x)]) one (ei_seqA ev_var (.inr rfl)) (by omega) (fun _ _ => eg_name) (by intro a _ j hj; simpa using hj)
    (fun x => !decide (x ∈ other)) (fun x _ => et_test (ev_notIn ev_var ev_var)) Dt.int (fun x _ _ => ev_var))) (.inl rfl)) ev_int) ?_) k
  congr 1
  rw [List.length_map, Bool.eq_iff_iff, decide_eq_true_iff]
  unfold insideB
  rw [List.all_eq_true]
  constructor
  · intro h x hx
    have h0 : (one.filter fun x => !decide (x ∈ other)).length = 0 := by omega
    have h2 := List.filter_eq_nil_iff.mp (List.length_eq_zero_iff.mp h0) x hx
    simpa using h2
  · intro h
    have h0 : one.filter (fun x => !decide (x ∈ other)) = [] := List.filter_eq_nil_iff.mpr fun x hx => by
      have := h x hx
      simpa using this
    rw [h0]
    rfl
abbrev casesL (cs : List Case) : Dt := .lst (cs.map caseD)
def handC (c : Case) : Dt := .lst [.lst (intsD c.1.reverse), .lst (intsD c.2.reverse)]
abbrev nm__law_handed : List PySem.Str := [("_law_cases" : PySem.Str), ("_law_case" : PySem.Str)]
abbrev ps__law_handed : List PySem.Str := [("_law_cases" : PySem.Str)]
theorem sc__law_handed : FnScope nm__law_handed ps__law_handed (defScope st__law_handed) := ⟨rfl, rfl, rfl, by decide +kernel, rfl, by decide +kernel, by decide +kernel⟩
/- slots: 0:_law_cases 1:_law_case -/
theorem ok__law_handed (T : Tx K mg) : OkF P w K mg base CX0 "_law_handed" 1 ps__law_handed
    (PF (fun cs : List Case => cs.length ≤ 1000) (fun cs => [casesL cs]) (fun cs r => r = .lst (cs.map handC))) := by
  refine Df.ok T.d__law_handed sc__law_handed (fun _ _ _ _ _ _ us hl => match us, hl with | [_], _ => rfl) (pf_len fun _ => rfl) (fun cdv A outer s H vs Q E hr h => ?_)
  obtain ⟨cs, B, h1, e, st, k⟩ := pf_open (N := nm__law_handed) h
  refine ⟨_, PSs.nox (pss_one (ps_ret (pe_lc (own := [("_law_case", 1)]) rfl sc__law_handed.nd (pi_seq_k (K := K) (pv 0)) (blkOk_by (N := nm__law_handed) (sc := (defScope st__law_handed)) (by decide +kernel)) (fun _ _ _ _ _ => (pg_name (i := 1) sc__law_handed.nd rfl (Or.inl rfl))) (fun _ _ _ _ _ => pts_nil) (fun _ _ _ _ _ => (pe_lst (pa_cons (pe_revL_k (K := K) (pe_callTy (call_list_k (K := K)) (by rfl) T.b_list boot_list (pa_cons (pe_ix (ix_tup_k (K := K)) (pv 1) pe_int (fun _ _ => rfl)) pa_nil))) (pa_cons (pe_revL_k (K := K) (pe_callTy (call_list_k (K := K)) (by rfl) T.b_list boot_list (pa_cons (pe_ix (ix_tup_k (K := K)) (pv 1) pe_int (fun _ _ => rfl)) pa_nil))) pa_nil))))))), ?_⟩
  refine s_ret st (EO.ev (eo_lcm caseD (fun c => [(1, caseD c)]) cs (ei_seqA ev_var (.inl rfl)) (by omega) (fun _ _ => eg_name) (by intro a _ j hj; simpa using hj) handC
    (fun c _ => EO.ev (eo_lst (ea_cons (EV.to (EO.ev (eo_rev (EO.ev (eo_list (ev_ixT (i := 0) (d := lotD c.1) (ev_var (i := 1) (d := caseD c)) ev_int rfl) (.inr rfl))))) (congrArg Dt.lst List.map_reverse.symm)) (ea_one (EV.to (EO.ev (eo_rev (EO.ev (eo_list (ev_ixT (i := 1) (d := lotD c.2) (ev_var (i := 1) (d := caseD c)) ev_int rfl) (.inr rfl))))) (congrArg Dt.lst List.map_reverse.symm)))))))) k
abbrev nm__law_says : List PySem.Str := [("_law_value" : PySem.Str), ("_law_due" : PySem.Str)]
abbrev ps__law_says : List PySem.Str := [("_law_value" : PySem.Str), ("_law_due" : PySem.Str)]
theorem sc__law_says : FnScope nm__law_says ps__law_says (defScope st__law_says) := ⟨rfl, rfl, rfl, by decide +kernel, rfl, by decide +kernel, by decide +kernel⟩
/- slots: 0:_law_value 1:_law_due -/
theorem ok__law_says (T : Tx K mg) : OkF P w K mg base CX0 "_law_says" 1 ps__law_says
    (PF (fun _ : Bool × Bool => True) (fun p => [.bl p.1, .bl p.2]) (fun p r => r = .bl (decide (p.1 = p.2)))) := by
  refine Df.ok T.d__law_says sc__law_says (fun _ _ _ _ _ _ us hl => match us, hl with | [_, _], _ => rfl) (pf_len fun _ => rfl) (fun cdv A outer s H vs Q E hr h => ?_)
  obtain ⟨⟨x, y⟩, B, _, e, st, k⟩ := pf_open (N := nm__law_says) h
  dsimp only at st k
  refine ⟨_, PSs.nox (pss_one (ps_ret (pe_and (pe_callB (call_isi_k (K := K)) (by rfl) T.b_isinstance boot_isinstance (pa_cons (pv 0) (pa_cons (pe_bltn (v := .ty "bool") (by rfl) T.b_bool boot_bool rfl) pa_nil))) (pe_one (pe_cmpR op_eq (pv 0) (pv 1) (nomark _)))))), ?_⟩
  exact s_ret st (EV.to (ev_andV (ev_isi (d := .bl x) ev_var (kit_bool rfl) rfl) (fun _ => ev_eqB ev_var ev_var)) rfl) k
abbrev nm__law_first : List PySem.Str := [("_law_order" : PySem.Str), ("_law_lot_here" : PySem.Str), ("_law_world" : PySem.Str)]
abbrev ps__law_first : List PySem.Str := [("_law_order" : PySem.Str), ("_law_lot_here" : PySem.Str)]
theorem sc__law_first : FnScope nm__law_first ps__law_first (defScope st__law_first) := ⟨rfl, rfl, rfl, by decide +kernel, rfl, by decide +kernel, by decide +kernel⟩
/- slots: 0:_law_order 1:_law_lot_here 2:_law_world -/
theorem ok__law_first (T : Tx K mg) : OkF P w K mg base CX0 "_law_first" 1 ps__law_first
    (PF (fun _ : List Int × List Int => True) (fun p => [lotD p.1, lotD p.2]) (fun p r => r = .int (firstOf p.1 p.2))) := by
  refine Df.ok T.d__law_first sc__law_first (fun _ _ _ _ _ _ us hl => match us, hl with | [_, _], _ => rfl) (pf_len fun _ => rfl) (fun cdv A outer s H vs Q E hr h => ?_)
  obtain ⟨⟨os, L⟩, B, _, e, st, k⟩ := pf_open (N := nm__law_first) h
  dsimp only at st k
  refine ⟨_, PSs.nox (pss_cons (ps_for PassesOwn.never rfl (pi_seq_k (K := K) (pv 0)) (pg_name (i := 2) sc__law_first.nd rfl (Or.inl rfl)) (pss_one (ps_if (pt_cmpR (op_in_k (K := K)) (pv 2) (pv 1) (by rfl)) (pss_one (ps_ret (pv 2))) pss_nil)))
      (pss_one (ps_ret (pe_un un_neg pe_int)))), ?_⟩
  refine q_for Dt.int (fun x => [(2, .int x)]) os st (ei_seqA ev_var (.inr rfl)) (fun _ _ => eg_name) (fun i ρ' => ρ' = [.dat (lotD os), .dat (lotD L), .any] ∧ firstOf os L = firstOf (os.drop i) L) ⟨rfl, rfl⟩ ?_ ?_
  · rintro Bj i x ρ' σ' B2 H2 hx ⟨rfl, hf⟩ st2
    rw [drop_get hx] at hf
    have hf2 : firstOf os L = if x ∈ L then x else firstOf (os.drop (i + 1)) L := by
      rw [hf]
      unfold firstOf
      rw [List.find?_cons]
      by_cases h : x ∈ L
      · rw [decide_eq_true h, if_pos h]
        rfl
      · rw [decide_eq_false h, if_neg h]
    refine s_if st2 (et_test (ev_in (ev_var (i := 2)) (ev_var (i := 1)))) (fun hb B3 H3 st3 => ?_) (fun hb B3 H3 st3 => ?_)
    · rw [if_pos (of_decide_eq_true hb)] at hf2
      exact s_ret st3 (ev_var (i := 2)) fun v d B4 H4 p g hv => k v d B4 H4 (by rw [p, hf2]) g hv
    · rw [if_neg (of_decide_eq_false hb)] at hf2
      exact ⟨_, B3, ⟨rfl, hf2⟩, st3.weak (.same (.same (.any .nil)))⟩
  · rintro ρ' σ' B2 H2 ⟨rfl, hf⟩ st2
    rw [List.drop_length] at hf
    exact s_ret st2 (ev_neg ev_int) fun v d B4 H4 p g hv => k v d B4 H4 (by rw [p, hf]; rfl) g hv
abbrev nm__law_order_fits : List PySem.Str := [("_law_order" : PySem.Str), ("_law_cases" : PySem.Str), ("_law_case" : PySem.Str)]
abbrev ps__law_order_fits : List PySem.Str := [("_law_order" : PySem.Str), ("_law_cases" : PySem.Str)]
theorem sc__law_order_fits : FnScope nm__law_order_fits ps__law_order_fits (defScope st__law_order_fits) := ⟨rfl, rfl, rfl, by decide +kernel, rfl, by decide +kernel, by decide +kernel⟩
/- slots: 0:_law_order 1:_law_cases 2:_law_case -/
theorem ok__law_order_fits (T : Tx K mg) : OkF P w K mg base CX0 "_law_order_fits" 2 ps__law_order_fits
    (PF (fun _ : List Int × List Case => True) (fun p => [lotD p.1, casesL p.2]) (fun p r => r = .bl (fitsB p.1 p.2))) := by
  refine Df.ok T.d__law_order_fits sc__law_order_fits (fun _ _ _ _ _ _ us hl => match us, hl with | [_, _], _ => rfl) (pf_len fun _ => rfl) (fun cdv A outer s H vs Q E hr h => ?_)
  obtain ⟨⟨os, cs⟩, B, _, e, st, k⟩ := pf_open (N := nm__law_order_fits) h
  dsimp only at st k
  refine ⟨_, PSs.nox (pss_cons (ps_for PassesOwn.never rfl (pi_seq_k (K := K) (pv 1)) (pg_name (i := 2) sc__law_order_fits.nd rfl (Or.inl rfl)) (pss_one (ps_if (pt_cmpR (op_notIn_k (K := K)) (pe_callO (ok__law_first T) (hr.mono (by decide)) (pa_cons (pv 0) (pa_cons (pe_ix (ix_tup_k (K := K)) (pv 2) pe_int (fun _ _ => rfl)) pa_nil))) (pe_ix (ix_tup_k (K := K)) (pv 2) pe_int (fun _ _ => rfl)) (by rfl)) (pss_one (ps_ret pe_bl)) pss_nil)))
      (pss_one (ps_ret pe_bl))), ?_⟩
  refine q_search caseD (fun c => [(2, caseD c)]) cs st (ei_seqA ev_var (.inl rfl)) (fun _ _ => eg_name) (fun c => !decide (firstOf os c.1 ∈ c.2)) (fun c _ => .same (.same (.any .nil))) (fun Bj i c σ' B' H' Nx hc _ st' ne => ?_) (fun hall σ' B' H' st' => ?_)
  · refine s_if st' (et_test (ev_op (ev_call (os, c.1) trivial (ea_cons (ev_var (i := 0)) (ea_one (ev_ixT (i := 0) (d := lotD c.1) (ev_var (i := 2) (d := caseD c)) ev_int rfl)))) (ev_ixT (i := 1) (d := lotD c.2) (ev_var (i := 2) (d := caseD c)) ev_int rfl) (rd_notIn (.inl rfl)))) (fun hb B3 H3 st3 => ?_) (fun hb B3 H3 st3 => ?_)
    · refine s_ret st3 ev_bl fun v d' B4 H4 p g hv => k v d' B4 H4 (p.trans ?_) g hv
      congr 1
      refine Eq.symm (Bool.eq_false_iff.mpr fun z => ?_)
      have := List.all_eq_true.mp z c (List.mem_of_getElem? hc)
      dsimp only at hb
      rw [this] at hb
      cases hb
    · exact ne hb _ _ _ _ (.same (.same (.any .nil))) st3
  · refine s_ret st' ev_bl fun v d' B4 H4 p g hv => k v d' B4 H4 (p.trans ?_) g hv
    congr 1
    refine Eq.symm (List.all_eq_true.mpr fun c hc => ?_)
    have := hall c hc
    cases q : decide (firstOf os c.1 ∈ c.2) with
    | true => rfl
    | false =>
      rw [q] at this
      cases this
end
end K37
/-! K37X: more plain defs of the law -/
namespace L2
open PySem PySem.Spec PyProof.Rows
def rSortX (K : PySem.W.Frag) (B : Int) : List V → Hp → VK → Prop := fun vs H Q => rSorted1 K vs H Q ∨ ∃ d, 1 ≤ d ∧ rSortU K d B vs H Q
theorem cr_sortX {X : Cx} {K : PySem.W.Frag} {B : Int} (h : X.K = K := by rfl) : CallR X (.builtin "sorted") (rSortX K B) := by
  subst h
  intro pins s σ H vs us Q I r h
  rcases h with h | ⟨d, hd, h⟩
  · exact cr_sorted1 pins s σ H vs us Q I r h
  · exact cr_sortT hd pins s σ H vs us Q I r h
end L2
namespace K37
open PySem PyProof.Rows L2
open Evl (Ex)
/-! ### sorted of tuples -/
theorem perm_map_inv {α β : Type} (f : α → β) {es : List β} {M : List β} (h : es.Perm M) : ∀ {L : List α}, M = L.map f → ∃ ms : List α, ms.Perm L ∧ es = ms.map f := by
  induction h with
  | nil =>
    intro L e
    cases L with
    | nil => exact ⟨[], .refl _, rfl⟩
    | cons _ _ => cases e
  | cons x p ih =>
    intro L e
    cases L with
    | nil => cases e
    | cons a L =>
      injection e with e1 e2
      obtain ⟨ms, q, r⟩ := ih e2
      exact ⟨a :: ms, q.cons _, by rw [r, e1]; rfl⟩
  | swap x y l =>
    intro L e
    match L, e with
    | [], e => cases e
    | [_], e => cases e
    | a :: b :: L, e =>
      injection e with e1 e2
      injection e2 with e2 e3
      exact ⟨b :: a :: L, .swap _ _ _, by rw [e1, e2, e3]; rfl⟩
  | trans p q ihp ihq =>
    intro L e
    obtain ⟨ms, q1, r1⟩ := ihq e
    obtain ⟨ks, q2, r2⟩ := ihp r1
    exact ⟨ks, q2.trans q1, r2⟩
section
variable {D : Option Addr} {ρ : List Sl} {ta : TE} {K : PySem.W.Frag}
theorem eo_sortX {L ms : List (List Int)} {d : Nat} {Bn : Int} (h : EV D ta ρ (.lst (L.map lotD))) (h64 : L.length < 64) (hd : ∀ A ∈ L, A.length = d ∧ TS.Bd Bn A) (h1 : d = 0 → L.length ≤ 1) (p : L.Perm ms) (hs : ms.Pairwise fun A B => TS.code Bn A ≤ TS.code Bn B)
    (hi : ∀ A ∈ ms, ∀ B ∈ ms, TS.code Bn A = TS.code Bn B → A = B) : EO D (tCB (rSortX K Bn) (tCons ta tNil)) ρ (ms.map lotD) := fun σ B H l Q q => h σ B H l _ fun v x B1 H1 px g1 hv => by
  subst px
  obtain ⟨a, xs, rfl, ha, hl⟩ := hv
  have hxl : xs.length = L.length := by rw [hl.length, List.length_map]
  by_cases d0 : d = 0
  · have e1 := h1 d0
    have e2 : L = ms := by
      match L, ms, p, e1 with
      | [], ms, p, _ => exact (List.nil_perm.mp p).symm
      | [A], ms, p, _ => exact (List.singleton_perm.mp p)
    subst e2
    refine .inl ⟨a, xs, rfl, SqL.of (g1.i a _ ha), by omega, fun p hp => q p xs _ B1 _ rfl (g1.trans (Gr.newO g1.i hp)) (g1.none_back l.ex l.dr hp) (ex_none g1.i hp) upd_same hl⟩
  · refine .inr ⟨d, by omega, a, xs, rfl, SqL.of (g1.i a _ ha), by omega, fun x hx => ?_, fun ys pp yp ysrt hp => ?_⟩
    · obtain ⟨i, hi', e⟩ := List.mem_iff_getElem.mp hx
      obtain ⟨dd, e1, e2⟩ := hl.get (i := i) (x := x) (by rw [List.getElem?_eq_getElem hi', e])
      rw [List.getElem?_map] at e1
      obtain ⟨A, e3, rfl⟩ := Option.map_eq_some_iff.mp e1
      obtain ⟨b, rfl, hb⟩ := has_lot e2
      have := hd A (List.mem_of_getElem? e3)
      exact ⟨A, ⟨b, rfl, SqT.of (g1.i b _ hb)⟩, this.1, this.2⟩
    · obtain ⟨es, pe, hes⟩ := hl.perm yp
      obtain ⟨ks, pk, rfl⟩ := perm_map_inv lotD pe rfl
      have e4 : ks = ms := by
        refine List.Perm.eq_of_pairwise (le := fun A B => TS.code Bn A ≤ TS.code Bn B) (fun A B hA hB h1 h2 => hi A ((pk.trans p).mem_iff.mp hA) B ((pk.trans p).mem_iff.mp ((pk.trans p).mem_iff.mpr hB)) (by omega)) ?_ hs (pk.trans p)
        clear pe
        have : ∀ (ks : List (List Int)) (ys : List V), HasL (ks.map lotD) ys B1 → ys.Pairwise (fun x y => ∀ n m, TupI K H1 x n → TupI K H1 y m → TS.code Bn n ≤ TS.code Bn m) → ks.Pairwise fun A B => TS.code Bn A ≤ TS.code Bn B := by
          intro ks
          induction ks with
          | nil => exact fun _ _ _ => .nil
          | cons A ks ih =>
            intro ys hy hp
            obtain ⟨y, r, rfl, h1, h2⟩ := hy
            have hp' := List.pairwise_cons.mp hp
            refine .cons (fun B hB => ?_) (ih r h2 hp'.2)
            obtain ⟨i, hi', e⟩ := List.mem_iff_getElem.mp hB
            obtain ⟨z, e1, e2⟩ := h2.get' (i := i) (d := lotD B) (by rw [List.getElem?_map, List.getElem?_eq_getElem hi', e]; rfl)
            obtain ⟨b1, rfl, hb1⟩ := has_lot h1
            obtain ⟨b2, rfl, hb2⟩ := has_lot e2
            exact hp'.1 _ (List.mem_of_getElem? e1) A B ⟨b1, rfl, SqT.of (g1.i b1 _ hb1)⟩ ⟨b2, rfl, SqT.of (g1.i b2 _ hb2)⟩
        exact this ks ys hes ysrt
      subst e4
      exact q pp ys _ B1 _ rfl (g1.trans (Gr.newO g1.i hp)) (g1.none_back l.ex l.dr hp) (ex_none g1.i hp) upd_same hes
end
/-! ### the lots, doubled and sorted -/
def dbl : Nat → List (List Int)
  | 0 => [[]]
  | k + 1 => dbl k ++ (dbl k).map fun A => A ++ [(k : Int)]
theorem dbl_len : ∀ {k : Nat} {A : List Int}, A ∈ dbl k → A.length ≤ k
  | 0, A, h => by
    have e : A = [] := by simpa [dbl] using h
    rw [e]
    exact Nat.le_refl _
  | k + 1, A, h => by
    rcases List.mem_append.mp (show A ∈ dbl k ++ _ from h) with h | h
    · have := dbl_len h
      omega
    · obtain ⟨C, hC, rfl⟩ := List.mem_map.mp h
      have := dbl_len hC
      rw [List.length_append]
      show C.length + 1 ≤ _
      omega
def sizeK (n k : Nat) : List (List Int) := (dbl n).filter fun A => decide ((A.length : Int) = (k : Int))
def sortFacts (n k : Nat) : Bool := (sizeK n k).isPerm (lays n k) && decide ((lays n k).Pairwise fun A B => TS.code 12 A ≤ TS.code 12 B) && ((lays n k).all fun A => (lays n k).all fun B => !decide (TS.code 12 A = TS.code 12 B) || decide (A = B)) &&
  ((sizeK n k).all fun A => A.all fun x => decide (0 ≤ x) && decide (x < 12)) && decide ((sizeK n k).length < 64) && (decide (1 ≤ k) || decide ((sizeK n k).length ≤ 1))
theorem sort_facts : ∀ n, 1 ≤ n → n ≤ 5 → ((List.range (n + 1)).all fun k => sortFacts n k) = true ∧ ((List.range (n + 1)).all fun k => decide ((dbl k).length ≤ 32)) = true := by
  intro n h1 h2
  match n, h1, h2 with
  | 1, _, _ => decide +kernel
  | 2, _, _ => decide +kernel
  | 3, _, _ => decide +kernel
  | 4, _, _ => decide +kernel
  | 5, _, _ => decide +kernel
def ordS (n : Nat) : Nat → List (List Int)
  | 0 => [[]]
  | k + 1 => (ordS n k).flatMap fun o => ((upto n).filter fun x => !decide (x ∈ o)).map fun x => o ++ [x]
def allOrd (n : Nat) : List (List Int) := ordS n n
theorem ord_facts : ∀ n, 1 ≤ n → n ≤ 5 → ((List.range (n + 1)).all fun k => decide ((ordS n k).length ≤ 120)) = true ∧ (allOrd n).length ≠ 0 := by
  intro n h1 h2
  match n, h1, h2 with
  | 1, _, _ => decide +kernel
  | 2, _, _ => decide +kernel
  | 3, _, _ => decide +kernel
  | 4, _, _ => decide +kernel
  | 5, _, _ => decide +kernel
def tornW (cs : List Case) (A : List Int) (x : Int) : Bool := cs.any fun c => decide (x ∈ c.1) && !decide (x ∈ c.2) && insideB c.1 A
def tornB (cs : List Case) (A : List Int) : Bool := A.all (tornW cs A) && decide (0 < A.length)
def greatT (n : Nat) (cs : List Case) : List Int := (allLots n).foldl (fun t A => if tornB cs A then unionL n t A else t) []
section
variable {P : Program} {w : World} {K : PySem.W.Frag} {mg : PySem.Str → Option Value} {base : Heap}
abbrev nm__law_lots : List PySem.Str := [("_law_worlds" : PySem.Str), ("_law_lots_here" : PySem.Str), ("_law_world" : PySem.Str), ("_law_order" : PySem.Str), ("_law_size_here" : PySem.Str), ("_law_lot_here" : PySem.Str)]
abbrev ps__law_lots : List PySem.Str := [("_law_worlds" : PySem.Str)]
theorem sc__law_lots : FnScope nm__law_lots ps__law_lots (defScope st__law_lots) := ⟨rfl, rfl, rfl, by decide +kernel, rfl, by decide +kernel, by decide +kernel⟩
/- slots: 0:_law_worlds 1:_law_lots_here 2:_law_world 3:_law_order 4:_law_size_here 5:_law_lot_here -/
theorem ok__law_lots (T : Tx K mg) : OkF P w K mg base CX0 "_law_lots" 1 ps__law_lots
    (PF (fun n : Nat => 1 ≤ n ∧ n ≤ 5) (fun n => [.int (n : Int)]) (fun n r => r = .lst ((allLots n).map lotD))) := by
  refine Df.ok T.d__law_lots sc__law_lots (fun _ _ _ _ _ _ us hl => match us, hl with | [_], _ => rfl) (pf_len fun _ => rfl) (fun cdv A outer s H vs Q E hr h => ?_)
  obtain ⟨n, B, ⟨hn1, hn2⟩, e, st, k⟩ := pf_open (N := nm__law_lots) h
  obtain ⟨sf, df⟩ := sort_facts n hn1 hn2
  obtain ⟨lf, le, ll, lb⟩ := lay_facts n hn1 hn2
  have dl : ∀ i, i ≤ n → (dbl i).length ≤ 32 := fun i hi => of_decide_eq_true (List.all_eq_true.mp df i (List.mem_range.mpr (by omega)))
  have lk : ∀ k, k ≤ n → (lays n k).length ≤ 32 := fun k hk => of_decide_eq_true (List.all_eq_true.mp lb k (List.mem_range.mpr (by omega)))
  refine ⟨_, PSs.nox (pss_cons (ps_set (i := 1) sc__law_lots.nd rfl (Or.inl rfl) (pe_lst (pa_cons (pe_tup pa_nil) pa_nil)))
      (pss_cons (ps_for PassesOwn.never rfl (pi_range1 (by rfl) T.b_range (pa_cons (pv 0) pa_nil)) (pg_name (i := 2) sc__law_lots.nd rfl (Or.inr rfl)) (pss_one (ps_set (i := 1) sc__law_lots.nd rfl (Or.inl rfl) (pe_op op_cat (pv 1) (pe_lc (own := [("_law_lot_here", 5)]) rfl sc__law_lots.nd (pi_seq_k (K := K) (pv 1)) (blkOk_by (N := nm__law_lots) (sc := (defScope st__law_lots)) (by decide +kernel)) (fun _ _ _ _ _ => (pg_name (i := 5) sc__law_lots.nd rfl (Or.inl rfl))) (fun _ _ _ _ _ => pts_nil) (fun _ _ _ _ _ => (pe_op (op_catT_k (K := K)) (pv 5) (pe_tup (pa_cons (pv 2) pa_nil)))))))))
      (pss_cons (ps_set (i := 3) sc__law_lots.nd rfl (Or.inl rfl) (pe_lst pa_nil))
      (pss_cons (ps_for PassesOwn.never rfl (pi_range1 (by rfl) T.b_range (pa_cons (pe_op op_add (pv 0) pe_int) pa_nil)) (pg_name (i := 4) sc__law_lots.nd rfl (Or.inr rfl)) (pss_one (ps_set (i := 3) sc__law_lots.nd rfl (Or.inl rfl) (pe_op op_cat (pv 3) (pe_callB (cr_sortX (K := K) (B := 12)) (by rfl) T.b_sorted boot_sorted (pa_cons (pe_lc (own := [("_law_lot_here", 5)]) rfl sc__law_lots.nd (pi_seq_k (K := K) (pv 1)) (blkOk_by (N := nm__law_lots) (sc := (defScope st__law_lots)) (by decide +kernel)) (fun _ _ _ _ _ => (pg_name (i := 5) sc__law_lots.nd rfl (Or.inl rfl))) (fun _ _ _ _ _ => (pts_one (pt_cmpR op_eq (pe_callB (call_len_k (K := K)) (by rfl) T.b_len boot_len (pa_cons (pv 5) pa_nil)) (pv 4) (nomark _)))) (fun _ _ _ _ _ => (pv 5))) pa_nil))))))
      (pss_one (ps_ret (pv 3))))))), ?_⟩
  refine q_setE st (EO.ev (eo_lst (ea_one (ev_tup ea_nil)))) fun σ1 B1 H1 st1 => ?_
  refine q_for Dt.int (fun x => [(2, .int x)]) (upto n) st1 (ei_to (ei_rng1 (ev_var (i := 0)) (by omega)) rangeD0) (fun _ _ => eg_name) (fun i ρ' => ρ' = [.dat (.int (n : Int)), .dat (.lst ((dbl i).map lotD)), .any, .any, .any, .any]) rfl ?_ ?_
  · rintro Bj i x ρ' σ' B2 H2 hx rfl st2
    have hi : i < n := by
      have := (List.getElem?_eq_some_iff.mp hx).1
      rwa [upto_len] at this
    rw [upto_get hi] at hx
    cases hx
    have d1 := dl i (by omega)
    refine s_setE st2 (EO.ev (EO.to (ev_cat (ev_var (i := 1)) (EO.ev (eo_lcm lotD (fun A => [(5, lotD A)]) (dbl i) (ei_seqA (ev_var (i := 1)) (.inl rfl)) (by omega) (fun _ _ => eg_name) (by intro a _ j hj; simpa using hj) (fun A => lotD (A ++ [(i : Int)]))
      (fun A hA => EV.to (ev_catT (ev_var (i := 5)) (ev_tup (ea_one (ev_var (i := 2)))) (by have := dbl_len hA; rw [List.length_map]; show _ + 1 ≤ _; omega)) (congrArg Dt.tup intsD_snoc.symm)))) ?_) (show _ = (dbl (i + 1)).map lotD by
        show _ = (dbl i ++ (dbl i).map fun A => A ++ [(i : Int)]).map lotD
        rw [List.map_append, List.map_map]
        rfl))) fun σ3 B3 H3 st3 => ⟨_, B3, rfl, st3.weak (.same (.same (.any (.any (.any (.any .nil))))))⟩
    · rw [List.length_map, List.length_map]
      omega
  · rintro ρ' σ' B2 H2 rfl st2
    rw [upto_len] at st2
    refine q_setE st2 (EO.ev (eo_lst ea_nil)) fun σ3 B3 H3 st3 => ?_
    refine q_for Dt.int (fun x => [(4, .int x)]) (upto (n + 1)) st3 (ei_to (ei_rng1 (n := n + 1) (EV.to (ev_add (ev_var (i := 0)) ev_int) rfl) (by omega)) rangeD0) (fun _ _ => eg_name) (fun i ρ' => ρ' = [.dat (.int (n : Int)), .dat (.lst ((dbl n).map lotD)), .any, .dat (.lst (((List.range i).flatMap (lays n)).map lotD)), .any, .any] ∧ ((List.range i).flatMap (lays n)).length ≤ 32 * i) ⟨rfl, Nat.zero_le _⟩ ?_ ?_
    · rintro Bj i x ρ' σ' B4 H4 hx ⟨rfl, hz⟩ st4
      have hi : i < n + 1 := by
        have := (List.getElem?_eq_some_iff.mp hx).1
        rwa [upto_len] at this
      rw [upto_get hi] at hx
      cases hx
      have d1 := dl n (by omega)
      have fs := List.all_eq_true.mp sf i (List.mem_range.mpr hi)
      unfold sortFacts at fs
      simp only [Bool.and_eq_true, decide_eq_true_iff] at fs
      obtain ⟨⟨⟨⟨⟨f1, f2⟩, f3⟩, f4⟩, f5⟩, f6⟩ := fs
      have l2 := lk i (by omega)
      have e1 : (List.range (i + 1)).flatMap (lays n) = (List.range i).flatMap (lays n) ++ lays n i := by
        rw [List.range_succ, List.flatMap_append]
        simp
      refine s_setE st4 (EO.ev (EO.to (ev_cat (ev_var (i := 3)) (EO.ev (eo_sortX (L := sizeK n i) (ms := lays n i) (d := i) (Bn := 12) (EO.ev (eo_lc lotD (fun A => [(5, lotD A)]) (dbl n) (ei_seqA (ev_var (i := 1)) (.inl rfl)) (by omega) (fun _ _ => eg_name) (by intro a _ j hj; simpa using hj)
        (fun A => decide ((A.length : Int) = (i : Int))) (fun A _ => et_to (et_test (ev_eqI (ev_lenS (ev_var (i := 5)) (.inr rfl)) (ev_var (i := 4)))) (by rw [List.length_map])) lotD (fun A _ _ => ev_var (i := 5)))) f5 ?_ ?_ (List.isPerm_iff.mp f1) f2 ?_)) ?_) List.map_append.symm)) fun σ5 B5 H5 st5 => ⟨_, B5, ⟨rfl, ?_⟩, ?_⟩
      · intro A hA
        have l := (List.mem_filter.mp hA).2
        have l' := of_decide_eq_true l
        refine ⟨by omega, fun x hx => ?_⟩
        have := List.all_eq_true.mp (List.all_eq_true.mp f4 A hA) x hx
        rw [Bool.and_eq_true] at this
        exact ⟨of_decide_eq_true this.1, of_decide_eq_true this.2⟩
      · intro z
        rw [Bool.or_eq_true, decide_eq_true_iff, decide_eq_true_iff] at f6
        omega
      · intro A hA C hC z
        have := List.all_eq_true.mp (List.all_eq_true.mp f3 A hA) C hC
        rw [decide_eq_true z] at this
        exact of_decide_eq_true this
      · rw [List.length_map, List.length_map]
        omega
      · rw [e1, List.length_append]
        omega
      · rw [e1]
        exact st5.weak (.same (.same (.any (.same (.any (.any .nil))))))
    · rintro ρ' σ' B4 H4 ⟨rfl, hz⟩ st4
      rw [upto_len] at st4
      exact s_ret st4 (ev_var (i := 3)) fun v d B5 H5 p g hv => k v d B5 H5 p g hv
abbrev nm__law_orders : List PySem.Str := [("_law_worlds" : PySem.Str), ("_law_orders_here" : PySem.Str), ("_law_turn" : PySem.Str), ("_law_longer" : PySem.Str), ("_law_order" : PySem.Str), ("_law_world" : PySem.Str)]
abbrev ps__law_orders : List PySem.Str := [("_law_worlds" : PySem.Str)]
theorem sc__law_orders : FnScope nm__law_orders ps__law_orders (defScope st__law_orders) := ⟨rfl, rfl, rfl, by decide +kernel, rfl, by decide +kernel, by decide +kernel⟩
/- slots: 0:_law_worlds 1:_law_orders_here 2:_law_turn 3:_law_longer 4:_law_order 5:_law_world -/
theorem ordS_len {n : Nat} : ∀ {k : Nat} {A : List Int}, A ∈ ordS n k → A.length = k
  | 0, A, h => by
    have e : A = [] := by simpa [ordS] using h
    rw [e]
    rfl
  | k + 1, A, h => by
    obtain ⟨o, ho, h2⟩ := List.mem_flatMap.mp (show A ∈ (ordS n k).flatMap _ from h)
    obtain ⟨x, _, rfl⟩ := List.mem_map.mp h2
    rw [List.length_append, ordS_len ho]
    rfl
theorem ok__law_orders (T : Tx K mg) : OkF P w K mg base CX0 "_law_orders" 1 ps__law_orders
    (PF (fun n : Nat => 1 ≤ n ∧ n ≤ 5) (fun n => [.int (n : Int)]) (fun n r => r = .lst ((allOrd n).map lotD))) := by
  refine Df.ok T.d__law_orders sc__law_orders (fun _ _ _ _ _ _ us hl => match us, hl with | [_], _ => rfl) (pf_len fun _ => rfl) (fun cdv A outer s H vs Q E hr h => ?_)
  obtain ⟨n, B, ⟨hn1, hn2⟩, e, st, k⟩ := pf_open (N := nm__law_orders) h
  obtain ⟨of, _⟩ := ord_facts n hn1 hn2
  have ol : ∀ i, i ≤ n → (ordS n i).length ≤ 120 := fun i hi => of_decide_eq_true (List.all_eq_true.mp of i (List.mem_range.mpr (by omega)))
  refine ⟨_, PSs.nox (pss_cons (ps_set (i := 1) sc__law_orders.nd rfl (Or.inl rfl) (pe_lst (pa_cons (pe_tup pa_nil) pa_nil)))
      (pss_cons (ps_for PassesOwn.never rfl (pi_range1 (by rfl) T.b_range (pa_cons (pv 0) pa_nil)) (pg_name (i := 2) sc__law_orders.nd rfl (Or.inl rfl)) (pss_cons (ps_set (i := 3) sc__law_orders.nd rfl (Or.inl rfl) (pe_lst pa_nil))
      (pss_cons (ps_for PassesOwn.never rfl (pi_seq_k (K := K) (pv 1)) (pg_name (i := 4) sc__law_orders.nd rfl (Or.inr rfl)) (pss_one (ps_set (i := 3) sc__law_orders.nd rfl (Or.inl rfl) (pe_op op_cat (pv 3) (pe_lc (own := [("_law_world", 5)]) rfl sc__law_orders.nd (pi_range1 (by rfl) T.b_range (pa_cons (pv 0) pa_nil)) (blkOk_by (N := nm__law_orders) (sc := (defScope st__law_orders)) (by decide +kernel)) (fun _ _ _ _ _ => (pg_name (i := 5) sc__law_orders.nd rfl (Or.inl rfl))) (fun _ _ _ _ _ => (pts_one (pt_cmpR (op_notIn_k (K := K)) (pv 5) (pv 4) (by rfl)))) (fun _ _ _ _ _ => (pe_op (op_catT_k (K := K)) (pv 4) (pe_tup (pa_cons (pv 5) pa_nil)))))))))
      (pss_one (ps_set (i := 1) sc__law_orders.nd rfl (Or.inl rfl) (pv 3))))))
      (pss_one (ps_ret (pv 1))))), ?_⟩
  refine q_setE st (EO.ev (eo_lst (ea_one (ev_tup ea_nil)))) fun σ1 B1 H1 st1 => ?_
  refine q_for Dt.int (fun x => [(2, .int x)]) (upto n) st1 (ei_to (ei_rng1 (ev_var (i := 0)) (by omega)) rangeD0) (fun _ _ => eg_name) (fun i ρ' => ρ' = [.dat (.int (n : Int)), .dat (.lst ((ordS n i).map lotD)), .any, .any, .any, .any]) rfl ?_ ?_
  · rintro Bj i x ρ' σ' B2 H2 hx rfl st2
    have hi : i < n := by
      have := (List.getElem?_eq_some_iff.mp hx).1
      rwa [upto_len] at this
    have o1 := ol i (by omega)
    have o2 := ol (i + 1) (by omega)
    refine q_setE st2 (EO.ev (eo_lst ea_nil)) fun σ3 B3 H3 st3 => ?_
    refine q_for lotD (fun o => [(4, lotD o)]) (ordS n i) st3 (ei_seqA (ev_var (i := 1)) (.inl rfl)) (fun _ _ => eg_name) (fun j ρ' => ρ' = [.dat (.int (n : Int)), .dat (.lst ((ordS n i).map lotD)), .dat (.int x), .dat (.lst ((((ordS n i).take j).flatMap fun o => ((upto n).filter fun x => !decide (x ∈ o)).map fun x => o ++ [x]).map lotD)), .any, .any] ∧
      (((ordS n i).take j).flatMap fun o => ((upto n).filter fun x => !decide (x ∈ o)).map fun x => o ++ [x]).length ≤ 5 * j) ⟨rfl, Nat.zero_le _⟩ ?_ ?_
    · rintro Bk2 j o ρ' σ' B4 H4 ho ⟨rfl, hz⟩ st4
      have hm := List.mem_of_getElem? ho
      have hj : j < (ordS n i).length := (List.getElem?_eq_some_iff.mp ho).1
      have olen := ordS_len hm
      have fl : (((upto n).filter fun x => !decide (x ∈ o)).map fun x => o ++ [x]).length ≤ 5 := by
        rw [List.length_map]
        refine Nat.le_trans (List.length_filter_le _ _) ?_
        rw [upto_len]
        omega
      have tf := take_flat ho fun o => ((upto n).filter fun x => !decide (x ∈ o)).map fun x => o ++ [x]
      refine s_setE st4 (EO.ev (EO.to (ev_cat (ev_var (i := 3)) (EO.ev (EO.to (eo_lc Dt.int (fun x => [(5, .int x)]) (upto n) (ei_to (ei_rng1 (ev_var (i := 0)) (by omega)) rangeD0) (by rw [upto_len]; omega) (fun _ _ => eg_name) (by intro a _ j hj; simpa using hj) (fun x => !decide (x ∈ o)) (fun x _ => et_test (ev_notIn (ev_var (i := 5)) (ev_var (i := 4)))) (fun x => lotD (o ++ [x]))
        (fun x _ _ => EV.to (ev_catT (ev_var (i := 4)) (ev_tup (ea_one (ev_var (i := 5)))) (by rw [List.length_map]; show _ + 1 ≤ _; omega)) (congrArg Dt.tup intsD_snoc.symm))) (show _ = (((upto n).filter fun x => !decide (x ∈ o)).map fun x => o ++ [x]).map lotD by rw [List.map_map]; rfl))) ?_) List.map_append.symm)) fun σ5 B5 H5 st5 => ⟨_, B5, ⟨rfl, ?_⟩, ?_⟩
      · rw [List.length_map, List.length_map]
        omega
      · rw [tf, List.length_append]
        omega
      · rw [tf]
        exact st5.weak (.same (.same (.same (.same (.any (.any .nil))))))
    · rintro ρ' σ' B4 H4 ⟨rfl, hz⟩ st4
      rw [List.take_length] at st4
      exact s_setE st4 (ev_var (i := 3)) fun σ5 B5 H5 st5 => ⟨_, B5, rfl, st5.weak (.same (.same (.any (.any (.any (.any .nil))))))⟩
  · rintro ρ' σ' B2 H2 rfl st2
    rw [upto_len] at st2
    exact s_ret st2 (ev_var (i := 1)) fun v d B5 H5 p g hv => k v d B5 H5 p g hv
abbrev nm__law_torn : List PySem.Str := [("_law_cases" : PySem.Str), ("_law_lot_here" : PySem.Str), ("_law_world" : PySem.Str), ("_law_bars" : PySem.Str), ("_law_case" : PySem.Str)]
abbrev ps__law_torn : List PySem.Str := [("_law_cases" : PySem.Str), ("_law_lot_here" : PySem.Str)]
theorem sc__law_torn : FnScope nm__law_torn ps__law_torn (defScope st__law_torn) := ⟨rfl, rfl, rfl, by decide +kernel, rfl, by decide +kernel, by decide +kernel⟩
/- slots: 0:_law_cases 1:_law_lot_here 2:_law_world 3:_law_bars 4:_law_case -/
theorem ok__law_torn (T : Tx K mg) : OkF P w K mg base CX0 "_law_torn" 2 ps__law_torn
    (PF (fun p : List Case × List Int => p.1.length ≤ 1000 ∧ ∀ c ∈ p.1, c.1.length ≤ 1000) (fun p => [casesL p.1, lotD p.2]) (fun p r => r = .bl (tornB p.1 p.2))) := by
  refine Df.ok T.d__law_torn sc__law_torn (fun _ _ _ _ _ _ us hl => match us, hl with | [_, _], _ => rfl) (pf_len fun _ => rfl) (fun cdv A outer s H vs Q E hr h => ?_)
  obtain ⟨⟨cs, L⟩, B, ⟨hz, hl⟩, e, st, k⟩ := pf_open (N := nm__law_torn) h
  dsimp only at hz hl st k
  refine ⟨_, PSs.nox (pss_cons (ps_for PassesOwn.never rfl (pi_seq_k (K := K) (pv 1)) (pg_name (i := 2) sc__law_torn.nd rfl (Or.inr rfl)) (pss_cons (ps_setLc (i := 3) (own := [("_law_case", 4)]) rfl sc__law_torn.nd rfl rfl (sw_true rfl rfl rfl (by decide +kernel)) (pi_seq_k (K := K) (pv 0)) (blkOk_by (N := nm__law_torn) (sc := (defScope st__law_torn)) (by decide +kernel)) (fun _ _ _ _ _ => (pg_name (i := 4) sc__law_torn.nd rfl (Or.inl rfl))) (fun _ _ _ _ _ => (pts_one (PW.pt (pw_and (pt_cmpR (op_in_k (K := K)) (pv 2) (pe_ix (ix_tup_k (K := K)) (pv 4) pe_int (fun _ _ => rfl)) (by rfl)) (pw_and1 (pt_cmpR (op_notIn_k (K := K)) (pv 2) (pe_ix (ix_tup_k (K := K)) (pv 4) pe_int (fun _ _ => rfl)) (by rfl))))))) (fun _ _ _ _ _ => (pv 4)))
      (pss_one (ps_if (pt_cmpR op_eq (pe_callB (call_len_k (K := K)) (by rfl) T.b_len boot_len (pa_cons (pe_lc (own := [("_law_case", 4)]) rfl sc__law_torn.nd (pi_seq_k (K := K) (pv 3)) (blkOk_by (N := nm__law_torn) (sc := (defScope st__law_torn)) (by decide +kernel)) (fun _ _ _ _ _ => (pg_name (i := 4) sc__law_torn.nd rfl (Or.inl rfl))) (fun _ _ _ _ _ => (pts_one (pt_val (pe_callO (ok__law_inside T) (hr.mono (by decide)) (pa_cons (pe_ix (ix_tup_k (K := K)) (pv 4) pe_int (fun _ _ => rfl)) (pa_cons (pv 1) pa_nil)))))) (fun _ _ _ _ _ => (pv 4))) pa_nil)) pe_int (nomark _)) (pss_one (ps_ret pe_bl)) pss_nil))))
      (pss_one (ps_ret (pe_cmpR op_gt (pe_callB (call_len_k (K := K)) (by rfl) T.b_len boot_len (pa_cons (pv 1) pa_nil)) pe_int (nomark _))))), ?_⟩
  refine q_search Dt.int (fun x => [(2, .int x)]) L st (ei_seqA (ev_var (i := 1)) (.inr rfl)) (fun _ _ => eg_name) (fun x => !tornW cs L x) (fun _ _ => .same (.same (.any (.any (.any .nil))))) (fun Bj i x σ' B' H' Nx hx _ st' ne => ?_) (fun hall σ' B' H' st' => ?_)
  · have bl : (cs.filter fun c => decide (x ∈ c.1) && !decide (x ∈ c.2)).length ≤ 1000 := Nat.le_trans (List.length_filter_le _ _) hz
    refine q_setE st' (EO.ev (eo_lc caseD (fun c => [(4, caseD c)]) cs (ei_seqA (ev_var (i := 0)) (.inl rfl)) (by omega) (fun _ _ => eg_name) (by intro a _ j hj; simpa using hj) (fun c => decide (x ∈ c.1) && !decide (x ∈ c.2))
      (fun c _ => et_and (et_test (ev_in (ns := c.1) (ev_var (i := 2)) (ev_ixT (i := 0) (d := lotD c.1) (ev_var (i := 4) (d := caseD c)) ev_int rfl))) fun _ => et_test (ev_notIn (ns := c.2) (ev_var (i := 2)) (ev_ixT (i := 1) (d := lotD c.2) (ev_var (i := 4) (d := caseD c)) ev_int rfl))) caseD (fun c _ _ => ev_var (i := 4)))) fun σ2 B2 H2 st2 => ?_
    have tw : tornW cs L x = decide (((((cs.filter fun c => decide (x ∈ c.1) && !decide (x ∈ c.2)).filter fun c => insideB c.1 L).map caseD).length : Int) ≠ 0) := by
      rw [List.length_map, List.filter_filter, Bool.eq_iff_iff, decide_eq_true_iff]
      unfold tornW
      rw [List.any_eq_true]
      constructor
      · rintro ⟨c, hc, h1⟩ h2
        have h3 : (cs.filter fun c => insideB c.1 L && (decide (x ∈ c.1) && !decide (x ∈ c.2))).length = 0 := by omega
        have h4 := List.filter_eq_nil_iff.mp (List.length_eq_zero_iff.mp h3) c hc
        rw [Bool.and_comm] at h1
        exact h4 h1
      · intro h2
        have h3 : (cs.filter fun c => insideB c.1 L && (decide (x ∈ c.1) && !decide (x ∈ c.2))) ≠ [] := fun z => h2 (by rw [z]; rfl)
        obtain ⟨c, hc⟩ := List.exists_mem_of_ne_nil _ h3
        have h4 := List.mem_filter.mp hc
        exact ⟨c, h4.1, by rw [Bool.and_comm]; exact h4.2⟩
    refine s_if st2 (et_test (ev_eqI (ev_len (EO.ev (eo_lc caseD (fun c => [(4, caseD c)]) (cs.filter fun c => decide (x ∈ c.1) && !decide (x ∈ c.2)) (ei_seqA (ev_var (i := 3)) (.inl rfl)) (by omega) (fun _ _ => eg_name) (by intro a _ j hj; simpa using hj) (fun c => insideB c.1 L)
      (fun c hc => et_B (ev_call (c.1, L) (hl c (List.mem_filter.mp hc).1) (ea_cons (ev_ixT (i := 0) (d := lotD c.1) (ev_var (i := 4) (d := caseD c)) ev_int rfl) (ea_one (ev_var (i := 1)))))) caseD (fun c _ _ => ev_var (i := 4)))) (.inl rfl)) ev_int)) (fun hb B3 H3 st3 => ?_) (fun hb B3 H3 st3 => ?_)
    · have t0 : tornW cs L x = false := by
        rw [tw]
        exact decide_eq_false (fun z => z (of_decide_eq_true hb))
      refine s_ret st3 ev_bl fun v d' B4 H4 p g hv => k v d' B4 H4 (p.trans ?_) g hv
      congr 1
      refine Eq.symm (Bool.eq_false_iff.mpr fun z => ?_)
      unfold tornB at z
      rw [Bool.and_eq_true] at z
      have := List.all_eq_true.mp z.1 x (List.mem_of_getElem? hx)
      rw [t0] at this
      cases this
    · have t1 : tornW cs L x = true := by
        rw [tw]
        exact decide_eq_true (of_decide_eq_false hb)
      exact ne (by rw [t1]; rfl) _ _ _ _ (.same (.same (.any (.any (.any .nil))))) st3
  · refine s_ret st' (ev_gt (ev_lenS (ev_var (i := 1)) (.inr rfl)) ev_int) fun v d' B4 H4 p g hv => k v d' B4 H4 (p.trans ?_) g hv
    congr 1
    unfold tornB
    have al : L.all (tornW cs L) = true := List.all_eq_true.mpr fun x hx => by
      have := hall x hx
      cases q : tornW cs L x with
      | true => rfl
      | false =>
        rw [q] at this
        cases this
    rw [al, Bool.true_and, List.length_map]
    exact decide_eq_decide.mpr (by omega)
abbrev nm__law_greatest_torn : List PySem.Str := [("_law_cases" : PySem.Str), ("_law_worlds" : PySem.Str), ("_law_torn_here" : PySem.Str), ("_law_lot_here" : PySem.Str)]
abbrev ps__law_greatest_torn : List PySem.Str := [("_law_cases" : PySem.Str), ("_law_worlds" : PySem.Str)]
theorem sc__law_greatest_torn : FnScope nm__law_greatest_torn ps__law_greatest_torn (defScope st__law_greatest_torn) := ⟨rfl, rfl, rfl, by decide +kernel, rfl, by decide +kernel, by decide +kernel⟩
/- slots: 0:_law_cases 1:_law_worlds 2:_law_torn_here 3:_law_lot_here -/
theorem lots_lot : ∀ n, 1 ≤ n → n ≤ 5 → ∀ A ∈ allLots n, Lot (n : Int) A := by
  have key : ∀ n, 1 ≤ n → n ≤ 5 → ((allLots n).all fun A => decide (A.Pairwise (· < ·)) && A.all fun x => decide (0 ≤ x) && decide (x < (n : Int))) = true := by
    intro n h1 h2
    match n, h1, h2 with
    | 1, _, _ => decide +kernel
    | 2, _, _ => decide +kernel
    | 3, _, _ => decide +kernel
    | 4, _, _ => decide +kernel
    | 5, _, _ => decide +kernel
  intro n h1 h2 A hA
  have z := List.all_eq_true.mp (key n h1 h2) A hA
  rw [Bool.and_eq_true] at z
  refine ⟨of_decide_eq_true z.1, fun x hx => ?_⟩
  have y := List.all_eq_true.mp z.2 x hx
  rw [Bool.and_eq_true] at y
  exact ⟨of_decide_eq_true y.1, of_decide_eq_true y.2⟩
theorem ok__law_greatest_torn (T : Tx K mg) : OkF P w K mg base CX0 "_law_greatest_torn" 3 ps__law_greatest_torn
    (PF (fun p : Nat × List Case => 1 ≤ p.1 ∧ p.1 ≤ 5 ∧ p.2.length ≤ 1000 ∧ ∀ c ∈ p.2, c.1.length ≤ 1000) (fun p => [casesL p.2, .int (p.1 : Int)]) (fun p r => r = lotD (greatT p.1 p.2))) := by
  refine Df.ok T.d__law_greatest_torn sc__law_greatest_torn (fun _ _ _ _ _ _ us hl => match us, hl with | [_, _], _ => rfl) (pf_len fun _ => rfl) (fun cdv A outer s H vs Q E hr h => ?_)
  obtain ⟨⟨n, cs⟩, B, ⟨hn1, hn2, hz, hl⟩, e, st, k⟩ := pf_open (N := nm__law_greatest_torn) h
  dsimp only at hn1 hn2 hz hl st k
  refine ⟨_, PSs.nox (pss_cons (ps_set (i := 2) sc__law_greatest_torn.nd rfl (Or.inl rfl) (pe_tup pa_nil))
      (pss_cons (ps_for PassesOwn.never rfl (pi_seq_k (K := K) (pe_callO (ok__law_lots T) (hr.mono (by decide)) (pa_cons (pv 1) pa_nil))) (pg_name (i := 3) sc__law_greatest_torn.nd rfl (Or.inl rfl)) (pss_one (ps_if (pt_val (pe_callO (ok__law_torn T) (hr.mono (by decide)) (pa_cons (pv 0) (pa_cons (pv 3) pa_nil)))) (pss_one (ps_set (i := 2) sc__law_greatest_torn.nd rfl (Or.inl rfl) (pe_callO (ok__law_plus T) (hr.mono (by decide)) (pa_cons (pv 2) (pa_cons (pv 3) pa_nil))))) pss_nil)))
      (pss_one (ps_ret (pv 2))))), ?_⟩
  refine q_setE st (d := lotD []) (ev_tup ea_nil) fun σ1 B1 H1 st1 => ?_
  refine q_for lotD (fun A => [(3, lotD A)]) (allLots n) st1 (ei_seqA (EVP.imp (ev_call n ⟨hn1, hn2⟩ (ea_one (ev_var (i := 1)))) fun d z => z) (.inl rfl)) (fun _ _ => eg_name)
    (fun i ρ' => ρ' = [.dat (casesL cs), .dat (.int (n : Int)), .dat (lotD (((allLots n).take i).foldl (fun t A => if tornB cs A then unionL n t A else t) [])), .any] ∧ Lot (n : Int) (((allLots n).take i).foldl (fun t A => if tornB cs A then unionL n t A else t) [])) ⟨rfl, .nil, fun x hx => by cases hx⟩ ?_ ?_
  · rintro Bj i A ρ' σ' B2 H2 hA ⟨rfl, hT⟩ st2
    have lA := lots_lot n hn1 hn2 A (List.mem_of_getElem? hA)
    have tf : ((allLots n).take (i + 1)).foldl (fun t A => if tornB cs A then unionL n t A else t) [] = if tornB cs A then unionL n (((allLots n).take i).foldl (fun t A => if tornB cs A then unionL n t A else t) []) A else ((allLots n).take i).foldl (fun t A => if tornB cs A then unionL n t A else t) [] := by
      rw [List.take_add_one, hA, List.foldl_append]
      rfl
    refine s_if st2 (et_B (ev_call (cs, A) ⟨hz, hl⟩ (ea_cons (ev_var (i := 0)) (ea_one (ev_var (i := 3)))))) (fun hb B3 H3 st3 => ?_) (fun hb B3 H3 st3 => ?_)
    · rw [if_pos hb] at tf
      refine s_setE st3 (EVP.imp (ev_call (n, _, A) ⟨by dsimp only; omega, hT, lA⟩ (ea_cons (ev_var (i := 2)) (ea_one (ev_var (i := 3))))) fun d z => z) fun σ4 B4 H4 st4 => ⟨_, B4, ⟨rfl, ?_⟩, ?_⟩
      · rw [tf]
        exact lot_union
      · rw [tf]
        exact st4.weak (.same (.same (.same (.any .nil))))
    · rw [if_neg (by rw [show tornB cs A = false from hb]; exact Bool.false_ne_true)] at tf
      refine ⟨_, B3, ⟨rfl, ?_⟩, ?_⟩
      · rw [tf]
        exact hT
      · rw [tf]
        exact st3.weak (.same (.same (.same (.any .nil))))
  · rintro ρ' σ' B2 H2 ⟨rfl, hT⟩ st2
    rw [List.take_length] at st2
    exact s_ret st2 (ev_var (i := 2)) fun v d B5 H5 p g hv => k v d B5 H5 p g hv
end
end K37
/-! K37Y: the law's defs: wanted, lacking, draws -/
namespace K37
open PySem PyProof.Rows L2
open Evl (Ex)
theorem hu65_of {A : Around} {k : Nat} (hr : Room k A) : A.units + 65 < cLine := by have := hr.un; omega
theorem hu64_of {A : Around} {k : Nat} (hr : Room k A) : A.units + 64 < cLine := by have := hr.un; omega
def wD (v : Want) : Dt := .tup [.int (v.1 : Int), .int v.2.2]
theorem enumP_mem {α : Type} : ∀ {l : List α} {k i : Nat} {a : α}, (i, a) ∈ enumP k l → ∃ j, i = k + j ∧ l[j]? = some a
  | [], _, _, _, h => by cases h
  | b :: l, k, i, a, h => by
    rcases List.mem_cons.mp (show (i, a) ∈ (k, b) :: enumP (k + 1) l from h) with e | e
    · obtain ⟨rfl, rfl⟩ := Prod.mk.inj e
      exact ⟨0, rfl, rfl⟩
    · obtain ⟨j, rfl, h2⟩ := enumP_mem e
      exact ⟨j + 1, by omega, h2⟩
theorem want_mem {cs : List Case} {v : Want} (h : v ∈ wantC (enumP 0 cs)) : cs[v.1]? = some v.2.1 ∧ v.2.2 ∈ v.2.1.2 := by
  obtain ⟨⟨i, c⟩, h1, h2⟩ := List.mem_flatMap.mp h
  obtain ⟨x, hx, rfl⟩ := List.mem_map.mp h2
  obtain ⟨j, e, h3⟩ := enumP_mem h1
  rw [show i = j by omega]
  exact ⟨h3, hx⟩
def lackL (cs : List Case) (fits : List (List Int)) : List Want := (wantC (enumP 0 cs)).filter fun v => !decide (v.2.2 ∈ fits.map fun o => firstOf o v.2.1.1)
structure Small (cs : List Case) : Prop where
  few : cs.length ≤ 80
  ans : ∀ c ∈ cs, c.2.length ≤ 12
theorem want_len {cs : List Case} (h : Small cs) : ∀ (l : List (Nat × Case)), (∀ p ∈ l, p.2 ∈ cs) → (wantC l).length ≤ 12 * l.length
  | [], _ => Nat.le_refl _
  | p :: l, hp => by
    have e : wantC (p :: l) = (p.2.2.map fun x => (p.1, p.2, x)) ++ wantC l := rfl
    have ih := want_len h l fun q hq => hp q (List.mem_cons_of_mem _ hq)
    have := h.ans _ (hp p List.mem_cons_self)
    rw [e, List.length_append, List.length_map, List.length_cons]
    omega
theorem enum_in {cs : List Case} : ∀ p ∈ enumP 0 cs, p.2 ∈ cs := fun p hp => by
  obtain ⟨j, _, h⟩ := enumP_mem (i := p.1) (a := p.2) hp
  exact List.mem_of_getElem? h
section
variable {P : Program} {w : World} {K : PySem.W.Frag} {mg : PySem.Str → Option Value} {base : Heap}
abbrev nm__law_wanted : List PySem.Str := [("_law_cases" : PySem.Str), ("_law_wanted_here" : PySem.Str), ("_law_place" : PySem.Str), ("_law_world" : PySem.Str)]
abbrev ps__law_wanted : List PySem.Str := [("_law_cases" : PySem.Str)]
theorem sc__law_wanted : FnScope nm__law_wanted ps__law_wanted (defScope st__law_wanted) := ⟨rfl, rfl, rfl, by decide +kernel, rfl, by decide +kernel, by decide +kernel⟩
/- slots: 0:_law_cases 1:_law_wanted_here 2:_law_place 3:_law_world -/
theorem ok__law_wanted (T : Tx K mg) : OkF P w K mg base CX0 "_law_wanted" 1 ps__law_wanted
    (PF (fun cs : List Case => Small cs) (fun cs => [casesL cs]) (fun cs r => r = .lst ((wantC (enumP 0 cs)).map wD))) := by
  refine Df.ok T.d__law_wanted sc__law_wanted (fun _ _ _ _ _ _ us hl => match us, hl with | [_], _ => rfl) (pf_len fun _ => rfl) (fun cdv A outer s H vs Q E hr h => ?_)
  obtain ⟨cs, B, hs, e, st, k⟩ := pf_open (N := nm__law_wanted) h
  have few := hs.few
  refine ⟨_, PSs.nox (pss_cons (ps_set (i := 1) sc__law_wanted.nd rfl (Or.inl rfl) (pe_lst pa_nil))
      (pss_cons (ps_for PassesOwn.never rfl (pi_range1 (by rfl) T.b_range (pa_cons (pe_callB (call_len_k (K := K)) (by rfl) T.b_len boot_len (pa_cons (pv 0) pa_nil)) pa_nil)) (pg_name (i := 2) sc__law_wanted.nd rfl (Or.inl rfl)) (pss_one (ps_for PassesOwn.never rfl (pi_seq_k (K := K) (pe_ix (ix_tup_k (K := K)) (pe_ix (ix_list_k (K := K)) (pv 0) (pv 2) (fun _ _ => rfl)) pe_int (fun _ _ => rfl))) (pg_name (i := 3) sc__law_wanted.nd rfl (Or.inl rfl)) (pss_one (ps_expr (pe_bm PySem.F.plainAttrs_list PySem.F.slot_list_append PySem.F.type_list_append mt_append (pv 1) (pa_cons (pe_tup (pa_cons (pv 2) (pa_cons (pv 3) pa_nil))) pa_nil)))))))
      (pss_one (ps_ret (pv 1))))), ?_⟩
  refine q_new st (eo_lst ea_nil) e fun σ1 B1 H1 st1 => ?_
  refine q_for (fun p : Nat × Case => Dt.int (p.1 : Int)) (fun p => [(2, .int (p.1 : Int))]) (enumP 0 cs) st1 (ei_to (ei_rng1 (n := cs.length) (EV.to (ev_lenS (ev_var (i := 0)) (.inl rfl)) (by rw [List.length_map])) (by omega)) ?_) (fun _ _ => eg_name)
    (fun i ρ' => ρ' = [.dat (casesL cs), .own ((wantC ((enumP 0 cs).take i)).map wD), .any, .any]) rfl ?_ ?_
  · apply List.ext_getElem?
    intro i
    rw [List.getElem?_map, enumP_get]
    by_cases hi : i < cs.length
    · rw [rangeD_get hi, List.getElem?_eq_getElem hi, Nat.zero_add, Int.zero_add]
      rfl
    · rw [List.getElem?_eq_none (by rw [rangeD_len]; omega), List.getElem?_eq_none (by omega)]
      rfl
  · rintro Bj i ⟨i', c⟩ ρ' σ' B2 H2 ha rfl st2
    have tf := take_flat ha fun p : Nat × Case => p.2.2.map fun x => ((p.1, p.2, x) : Want)
    rw [enumP_get] at ha
    obtain ⟨c', hc, e2⟩ := Option.map_eq_some_iff.mp ha
    obtain ⟨rfl, rfl⟩ := Prod.mk.inj e2
    rw [Nat.zero_add] at st2 tf
    have hi : i < cs.length := (List.getElem?_eq_some_iff.mp hc).1
    have l2 := hs.ans c' (List.mem_of_getElem? hc)
    have wl := want_len hs ((enumP 0 cs).take i) fun p hp => enum_in p (List.mem_of_mem_take hp)
    rw [List.length_take, enumP_len] at wl
    have tf' : wantC ((enumP 0 cs).take (i + 1)) = wantC ((enumP 0 cs).take i) ++ c'.2.map fun x => ((i, c', x) : Want) := tf
    refine s_for Dt.int (fun x => [(3, .int x)]) c'.2 st2 (ei_seqA (ev_ixT (i := 1) (d := lotD c'.2) (ev_ixL (i := i) (d := caseD c') (ev_var (i := 0)) (ev_var (i := 2)) (by rw [List.getElem?_map, hc]; rfl)) ev_int rfl) (.inr rfl)) (fun _ _ => eg_name)
      (fun j ρ' => ρ' = [.dat (casesL cs), .own ((wantC ((enumP 0 cs).take i)).map wD ++ (c'.2.take j).map fun x => wD (i, c', x)), .dat (.int (i : Int)), .any]) (by rw [List.take_zero, List.map_nil, List.append_nil]; rfl) ?_ ?_
    · rintro Bk2 j x ρ' σ' B3 H3 hx rfl st3
      have hj : j < c'.2.length := (List.getElem?_eq_some_iff.mp hx).1
      refine s_app st3 rfl (ev_tup (ea_cons (ev_var (i := 2)) (ea_one (ev_var (i := 3))))) (by rw [List.length_append, List.length_map, List.length_map, List.length_take]; omega) fun d B4 H4 p st4 => ⟨_, B4, rfl, ?_⟩
      subst p
      have q : ((wantC ((enumP 0 cs).take i)).map wD ++ (c'.2.take j).map fun x => wD (i, c', x)) ++ [.tup [.int (i : Int), .int x]] = (wantC ((enumP 0 cs).take i)).map wD ++ (c'.2.take (j + 1)).map fun x => wD (i, c', x) := by
        rw [List.take_add_one, hx, List.map_append, List.append_assoc]
        rfl
      rw [q] at st4
      exact st4.weak (.same (.same (.same (.any .nil))))
    · rintro ρ' σ' B3 H3 rfl st3
      rw [List.take_length] at st3
      refine ⟨_, B3, rfl, ?_⟩
      rw [tf', List.map_append, List.map_map]
      exact st3.weak (.same (.same (.any (.any .nil))))
  · rintro ρ' σ' B2 H2 rfl st2
    rw [List.take_length] at st2
    obtain ⟨B3, st3⟩ := st2.know (i := 1) rfl
    exact s_ret st3 (ev_var (i := 1)) fun v d B5 H5 p g hv => k v d B5 H5 p g hv
abbrev nm__law_lacking : List PySem.Str := [("_law_cases" : PySem.Str), ("_law_fits" : PySem.Str), ("_law_firsts" : PySem.Str), ("_law_case" : PySem.Str), ("_law_order" : PySem.Str), ("_law_pair" : PySem.Str)]
abbrev ps__law_lacking : List PySem.Str := [("_law_cases" : PySem.Str), ("_law_fits" : PySem.Str)]
theorem sc__law_lacking : FnScope nm__law_lacking ps__law_lacking (defScope st__law_lacking) := ⟨rfl, rfl, rfl, by decide +kernel, rfl, by decide +kernel, by decide +kernel⟩
/- slots: 0:_law_cases 1:_law_fits 2:_law_firsts 3:_law_case 4:_law_order 5:_law_pair -/
theorem ok__law_lacking (T : Tx K mg) : OkF P w K mg base CX0 "_law_lacking" 2 ps__law_lacking
    (PF (fun p : List Case × List (List Int) => Small p.1 ∧ p.2.length ≤ 1000) (fun p => [casesL p.1, .lst (p.2.map lotD)]) (fun p r => r = .lst ((lackL p.1 p.2).map wD))) := by
  refine Df.ok T.d__law_lacking sc__law_lacking (fun _ _ _ _ _ _ us hl => match us, hl with | [_, _], _ => rfl) (pf_len fun _ => rfl) (fun cdv A outer s H vs Q E hr h => ?_)
  obtain ⟨⟨cs, fits⟩, B, ⟨hs, hf⟩, e, st, k⟩ := pf_open (N := nm__law_lacking) h
  dsimp only at hs hf st k
  have few := hs.few
  have wl := want_len hs (enumP 0 cs) enum_in
  rw [enumP_len] at wl
  refine ⟨_, PSs.nox (pss_cons (ps_set (i := 2) sc__law_lacking.nd rfl (Or.inr rfl) (pe_lc (own := [("_law_case", 3)]) rfl sc__law_lacking.nd (pi_seq_k (K := K) (pv 0)) (blkOk_by (N := nm__law_lacking) (sc := (defScope st__law_lacking)) (by decide +kernel)) (fun _ _ _ _ _ => (pg_name (i := 3) sc__law_lacking.nd rfl (Or.inr rfl))) (fun _ _ _ _ _ => pts_nil) (fun _ _ _ _ _ => (pe_lc (own := [("_law_order", 4)]) rfl sc__law_lacking.nd (pi_seq_k (K := K) (pv 1)) (blkOk_by (N := nm__law_lacking) (by kernel_rfl)) (fun _ _ _ _ _ => (pg_name (i := 4) sc__law_lacking.nd rfl (Or.inl rfl))) (fun _ _ _ _ _ => pts_nil) (fun _ _ _ _ _ => (pe_callO (ok__law_first T) (hr.mono (by decide)) (pa_cons (pv 4) (pa_cons (pe_ix (ix_tup_k (K := K)) (pv 3) pe_int (fun _ _ => rfl)) pa_nil))))))))
      (pss_one (ps_ret (pe_lc (own := [("_law_pair", 5)]) rfl sc__law_lacking.nd (pi_seq_k (K := K) (pe_callO (ok__law_wanted T) (hr.mono (by decide)) (pa_cons (pv 0) pa_nil))) (blkOk_by (N := nm__law_lacking) (sc := (defScope st__law_lacking)) (by decide +kernel)) (fun _ _ _ _ _ => (pg_name (i := 5) sc__law_lacking.nd rfl (Or.inl rfl))) (fun _ _ _ _ _ => (pts_one (pt_cmpR (op_notIn_k (K := K)) (pe_ix (ix_tup_k (K := K)) (pv 5) pe_int (fun _ _ => rfl)) (pe_ix (ix_list_k (K := K)) (pv 2) (pe_ix (ix_tup_k (K := K)) (pv 5) pe_int (fun _ _ => rfl)) (fun _ _ => rfl)) (by rfl)))) (fun _ _ _ _ _ => (pv 5)))))), ?_⟩
  refine q_setE st (d := .lst (cs.map fun c => .lst (intsD (fits.map fun o => firstOf o c.1)))) (EO.ev (eo_lcm caseD (fun c => [(3, caseD c)]) cs (ei_seqA (ev_var (i := 0)) (.inl rfl)) (by omega) (fun _ _ => eg_name) (by intro a _ j hj; simpa using hj) (fun c => .lst (intsD (fits.map fun o => firstOf o c.1)))
    (fun c _ => EV.to (EO.ev (eo_lcm lotD (fun o => [(4, lotD o)]) fits (ei_seqA (ev_var (i := 1)) (.inl rfl)) (by omega) (fun _ _ => eg_name) (by intro a _ j hj; simpa using hj) (fun o => Dt.int (firstOf o c.1))
      (fun o _ => EVP.imp (ev_call (o, c.1) trivial (ea_cons (ev_var (i := 4)) (ea_one (ev_ixT (i := 0) (d := lotD c.1) (ev_var (i := 3) (d := caseD c)) ev_int rfl)))) fun d z => z))) (congrArg Dt.lst (by show _ = List.map Dt.int (List.map _ _); rw [List.map_map]; rfl))))) fun σ1 B1 H1 st1 => ?_
  refine s_ret st1 (EO.ev (eo_lc wD (fun v => [(5, wD v)]) (wantC (enumP 0 cs)) (ei_seqA (EVP.imp (ev_call cs hs (ea_one (ev_var (i := 0)))) fun d z => z) (.inl rfl)) (by omega) (fun _ _ => eg_name) (by intro a _ j hj; simpa using hj)
    (fun v => !decide (v.2.2 ∈ fits.map fun o => firstOf o v.2.1.1)) (fun v hv => et_test (ev_op (ev_ixT (i := 1) (d := .int v.2.2) (ev_var (i := 5) (d := wD v)) ev_int rfl) (ev_ixL (i := v.1) (d := .lst (intsD (fits.map fun o => firstOf o v.2.1.1))) (ev_var (i := 2)) (ev_ixT (i := 0) (d := .int (v.1 : Int)) (ev_var (i := 5) (d := wD v)) ev_int rfl) ?_) (rd_notIn (.inr rfl)))) wD (fun v _ _ => ev_var (i := 5)))) k
  rw [List.getElem?_map, (want_mem hv).1]
  rfl
abbrev nm__law_order_good : List PySem.Str := [("_law_order" : PySem.Str), ("_law_worlds" : PySem.Str), ("_law_fits" : PySem.Str), ("_law_world" : PySem.Str)]
abbrev ps__law_order_good : List PySem.Str := [("_law_order" : PySem.Str), ("_law_worlds" : PySem.Str), ("_law_fits" : PySem.Str)]
theorem sc__law_order_good : FnScope nm__law_order_good ps__law_order_good (defScope st__law_order_good) := ⟨rfl, rfl, rfl, by decide +kernel, rfl, by decide +kernel, by decide +kernel⟩
/- slots: 0:_law_order 1:_law_worlds 2:_law_fits 3:_law_world -/
theorem ok__law_order_good (T : Tx K mg) : OkF P w K mg base CX0 "_law_order_good" 2 ps__law_order_good
    (PF (fun p : List Int × Int × List (List Int) => p.1.length ≤ 1000) (fun p => [lotD p.1, .int p.2.1, .lst (p.2.2.map lotD)]) (fun p r => r = .bl (decide (p.1 ∈ p.2.2)))) := by
  refine Df.ok T.d__law_order_good sc__law_order_good (fun _ _ _ _ _ _ us hl => match us, hl with | [_, _, _], _ => rfl) (pf_len fun _ => rfl) (fun cdv A outer s H vs Q E hr h => ?_)
  obtain ⟨⟨os, n, fits⟩, B, hl, e, st, k⟩ := pf_open (N := nm__law_order_good) h
  dsimp only at hl st k
  refine ⟨_, PSs.nox (pss_cons (ps_if (PW.pt (pw_or (pt_not (pt_val (pe_callB (call_isi_k (K := K)) (by rfl) T.b_isinstance boot_isinstance (pa_cons (pv 0) (pa_cons (pe_bltn (v := .ty "tuple") (by rfl) T.b_tuple boot_tuple rfl) pa_nil))))) (pw_or1 (pt_cmpR (op_notInD_k (K := K) (hu65_of hr)) (pv 0) (pv 2) (by rfl))))) (pss_one (ps_ret pe_bl)) pss_nil)
      (pss_one (ps_ret (pe_cmpR op_eq (pe_callB (call_len_k (K := K)) (by rfl) T.b_len boot_len (pa_cons (pe_lc (own := [("_law_world", 3)]) rfl sc__law_order_good.nd (pi_seq_k (K := K) (pv 0)) (blkOk_by (N := nm__law_order_good) (sc := (defScope st__law_order_good)) (by decide +kernel)) (fun _ _ _ _ _ => (pg_name (i := 3) sc__law_order_good.nd rfl (Or.inl rfl))) (fun _ _ _ _ _ => (pts_one (pt_not (pt_val (pe_callO (ok__law_int T) (hr.mono (by decide)) (pa_cons (pv 3) pa_nil)))))) (fun _ _ _ _ _ => (pv 3))) pa_nil)) pe_int (nomark _))))), ?_⟩
  refine q_ifN st (b := !decide (os ∈ fits)) (et_to (et_or (et_not (et_B (ev_isi (d := lotD os) (ev_var (i := 0)) (kit_tuple rfl) rfl))) fun _ => et_test (ev_notInD 1 (by decide) (ev_var (i := 0)) (ev_var (i := 2)) shD_lot (shDL_all fun d hd => by obtain ⟨A, _, rfl⟩ := List.mem_map.mp hd; exact shD_lot))) ?_) (fun hb B1 H1 st1 => ?_) (fun hb B1 H1 st1 => ?_)
  · rw [any_lots]
    rfl
  · refine s_ret st1 ev_bl fun v d B5 H5 p g hv => k v d B5 H5 (p.trans ?_) g hv
    rw [show decide (os ∈ fits) = false by cases q : decide (os ∈ fits) with
      | false => rfl
      | true =>
        rw [q] at hb
        cases hb]
  · refine s_ret st1 (ev_eqI (ev_len (EO.ev (eo_lc Dt.int (fun x => [(3, .int x)]) os (ei_seqA (ev_var (i := 0)) (.inr rfl)) (by omega) (fun _ _ => eg_name) (by intro a _ j hj; simpa using hj) (fun _ => false) (fun x _ => et_to (et_not (et_B (b := true) (EVP.imp (ev_call (Dt.int x) rfl (ea_one (ev_var (i := 3)))) fun d z => z))) rfl) Dt.int (fun x _ _ => ev_var (i := 3)))) (.inl rfl)) ev_int) fun v d B5 H5 p g hv => k v d B5 H5 (p.trans ?_) g hv
    have hb' : decide (os ∈ fits) = true := by
      cases q : decide (os ∈ fits) with
      | true => rfl
      | false =>
        rw [q] at hb
        cases hb
    rw [hb', show os.filter (fun _ => false) = [] from List.filter_eq_nil_iff.mpr fun _ _ => Bool.false_ne_true]
    rfl
end
end K37
/-! K37Z: the law's draws -/
namespace K37
open PySem PyProof.Rows L2
open Evl (Ex)
theorem gr_draw {B H : Hp} {a : Addr} {ns : List Int} (e : Ex B H) (z : B a = none) : Gr (some a) B H B (upd H a (.lst (ns.map V.int))) where
  b := Ex.refl B
  i := e.mut z
  k := fun b o d h n => by
    have q : b ≠ a := fun e => d (by rw [e])
    rw [upd_ne q]
    exact ⟨n, h⟩
  d := fun b e _ => by
    cases e
    exact ⟨z, ns, upd_same⟩
section
variable {D : Option Addr} {ρ : List Sl} {ta tb te : TE} {P : Dt → Prop} {PI : Int → Prop} {K : PySem.W.Frag}
theorem rd_eqI {i j : Int} : RD D rEq (.int i) (.int j) (fun e => e = .bl (decide (i = j))) := rd_of fun v w B H e hx hy Q q => by
  have e1 : v = .int i := hx
  have e2 : w = .int j := hy
  subst e1 e2
  refine ⟨rfl, q _ ?_⟩
  show V.bl (decide (V.int i = V.int j)) = V.bl (decide (i = j))
  congr 1
  exact decide_eq_decide.mpr ⟨fun z => V.int.inj z, fun z => congrArg _ z⟩
theorem evp_eqI {j : Int} (ha : EVP D ta ρ (fun d => ∃ i, PI i ∧ d = .int i)) (hb : EV D tb ρ (.int j)) : EVP D (tOp rEq ta tb) ρ (fun d => ∃ b : Bool, True ∧ d = .bl b) := evp_op ha hb fun x y ⟨i, _, ex⟩ ey => by
  subst ex ey
  exact fun v w B H e hd hx hy Q q => rd_eqI v w B H e hd hx hy Q fun u d B2 H2 p => q u d B2 H2 ⟨_, trivial, p⟩
end
section
variable {P : Program} {w : World} {K : PySem.W.Frag} {mg : PySem.Str → Option Value} {base : Heap}
abbrev nm__law_take : List PySem.Str := [("_law_draws_here" : PySem.Str), ("_law_bound" : PySem.Str)]
abbrev ps__law_take : List PySem.Str := [("_law_draws_here" : PySem.Str), ("_law_bound" : PySem.Str)]
theorem sc__law_take : FnScope nm__law_take ps__law_take (defScope st__law_take) := ⟨rfl, rfl, rfl, by decide +kernel, rfl, by decide +kernel, by decide +kernel⟩
/- slots: 0:_law_draws_here 1:_law_bound -/
theorem ok__law_take (T : Tx K mg) : OkF P w K mg base CX0 "_law_take" 1 ps__law_take
    (PD (fun b : Int => 1 ≤ b) (fun b => [.int b]) (fun b d => ∃ i, (0 ≤ i ∧ i < b) ∧ d = .int i)) := by
  refine Df.ok T.d__law_take sc__law_take (fun _ _ _ _ _ _ us hl => match us, hl with | [_, _], _ => rfl) (pd_len fun _ => rfl) (fun cdv A outer s H vs Q E hr h => ?_)
  obtain ⟨b, B, a, hb, e, dr, st, k⟩ := pd_open (N := nm__law_take) h
  refine ⟨_, PSs.nox (pss_cons (ps_if (pt_cmpR op_eq (pe_callB (call_len_k (K := K)) (by rfl) T.b_len boot_len (pa_cons (pv 0) pa_nil)) pe_int (nomark _)) (pss_one (ps_ret pe_int)) pss_nil)
      (pss_one (ps_ret (pe_op op_mod (pe_callTy call_int1 (by rfl) T.b_int boot_int (pa_cons (pe_bm0 PySem.F.plainAttrs_list PySem.F.slot_list_pop PySem.F.type_list_pop mt_pop (pv 0)) pa_nil)) (pv 1))))), ?_⟩
  obtain ⟨a', e1, e2⟩ := st.rl.at_ 0
  cases e2
  obtain ⟨z, ns, hx⟩ := dr
  obtain ⟨v1, e3, hv1⟩ := st.rl.dat (i := 1) (d := .int b) rfl
  have hv1' : v1 = .int b := hv1
  subst hv1'
  refine ⟨.ref a, e1, a, ns.map V.int, rfl, .inl (SqL.of hx), rfl, _, rfl, ?_⟩
  cases hn : ns with
  | nil =>
    subst hn
    exact k _ (.int 0) B H ⟨0, ⟨Int.le_refl 0, by omega⟩, rfl⟩ (Gr.refl e) rfl
  | cons n0 nr =>
    have ne : ns ≠ [] := by rw [hn]; exact List.cons_ne_nil _ _
    rw [← hn]
    have hf : decide (V.int ((ns.map V.int).length : Int) = V.int 0) = false := decide_eq_false fun z => by
      have := V.int.inj z
      rw [List.length_map, hn, List.length_cons] at this
      omega
    rw [hf]
    show (if false = true then _ else _)
    rw [if_neg Bool.false_ne_true]
    refine ⟨.ref a, e1, .inl ⟨rfl, _, SqL.of hx⟩, a, _, .int (ns.getLast ne), rfl, rfl, hx, ?_, ?_⟩
    · rw [List.length_map, List.getElem?_map]
      rw [← List.getLast?_eq_getElem?, List.getLast?_eq_some_getLast ne]
      rfl
    · refine .inl ⟨_, rfl, ?_⟩
      refine ⟨.int b, e3, _, _, rfl, rfl, by omega, ?_⟩
      rw [List.map_dropLast.symm]
      exact k _ (.int (ns.getLast ne % b)) B _ ⟨_, ⟨Int.emod_nonneg _ (by omega), Int.emod_lt_of_pos _ (by omega)⟩, rfl⟩ (gr_draw e z) rfl
abbrev TakeR (b : Int) : Dt → Prop := fun d => ∃ i, (0 ≤ i ∧ i < b) ∧ d = .int i
theorem evp_take {a : Addr} {ρ : List Sl} {i : Nat} {tb : TE} {b : Int} (hi : ρ[i]? = some .drw) (hb : 1 ≤ b) (h : EV (some a) tb ρ (.int b)) :
    EVP (some a) (tCall (PD (fun b : Int => 1 ≤ b) (fun b => [.int b]) (fun b d => ∃ i, (0 ≤ i ∧ i < b) ∧ d = .int i)) [] E0 (tCons (tVar i) (tCons tb tNil))) ρ (TakeR b) := ev_callD hi b hb (ea_one h)
abbrev nm__law_lot : List PySem.Str := [("_law_draws_here" : PySem.Str), ("_law_worlds" : PySem.Str), ("_law_world" : PySem.Str)]
abbrev ps__law_lot : List PySem.Str := [("_law_draws_here" : PySem.Str), ("_law_worlds" : PySem.Str)]
theorem sc__law_lot : FnScope nm__law_lot ps__law_lot (defScope st__law_lot) := ⟨rfl, rfl, rfl, by decide +kernel, rfl, by decide +kernel, by decide +kernel⟩
/- slots: 0:_law_draws_here 1:_law_worlds 2:_law_world -/
theorem ok__law_lot (T : Tx K mg) : OkF P w K mg base CX0 "_law_lot" 2 ps__law_lot
    (PD (fun n : Nat => n ≤ 12) (fun n => [.int (n : Int)]) (fun n d => ∃ A, Lot (n : Int) A ∧ d = lotD A)) := by
  refine Df.ok T.d__law_lot sc__law_lot (fun _ _ _ _ _ _ us hl => match us, hl with | [_, _], _ => rfl) (pd_len fun _ => rfl) (fun cdv A outer s H vs Q E hr h => ?_)
  obtain ⟨n, B, a, hn, e, dr, st, k⟩ := pd_open (N := nm__law_lot) h
  refine ⟨_, PSs.nox (pss_one (ps_ret (pe_callTy (call_tuple_k (K := K)) (by rfl) T.b_tuple boot_tuple (pa_cons (pe_lc (own := [("_law_world", 2)]) rfl sc__law_lot.nd (pi_range1 (by rfl) T.b_range (pa_cons (pv 1) pa_nil)) (blkOk_by (N := nm__law_lot) (sc := (defScope st__law_lot)) (by decide +kernel)) (fun _ _ _ _ _ => (pg_name (i := 2) sc__law_lot.nd rfl (Or.inl rfl))) (fun _ _ _ _ _ => (pts_one (pt_cmpR op_eq (pe_callO (ok__law_take T) (hr.mono (by decide)) (pa_cons (pv 0) (pa_cons pe_int pa_nil))) pe_int (nomark _)))) (fun _ _ _ _ _ => (pv 2))) pa_nil)))), ?_⟩
  have lu : Lot (n : Int) (upto n) := by
    have := lot_upto (n := (n : Int)) (by omega)
    rwa [Int.toNat_natCast] at this
  refine s_ret st (evp_tuple (PL := fun es => ∃ A : List Int, A.Sublist (upto n) ∧ es = intsD A) (EVP.imp (EOP.ev (eop_lc Dt.int (fun x => [(2, .int x)]) (Pd := fun as => as = upto n) (fun σ B H r R q => (ei_to (ei_rng1 (ev_var (i := 1)) (by omega)) rangeD0) σ B H r R fun J ds B2 H2 e => q J ds B2 H2 ⟨upto n, rfl, e⟩) (fun as e => by rw [e, upto_len]; omega) (fun _ _ _ _ => eg_name)
    (by intro _ a _ _ j hj; simpa using hj) (fun as i es => ∃ A : List Int, A.Sublist (as.take i) ∧ es = intsD A) (fun as _ => ⟨[], List.nil_sublist _, rfl⟩) (fun _ _ _ _ => True)
    (fun as i x es _ _ _ => etp_test (evp_eqI (evp_take (i := 0) rfl (by decide) ev_int) ev_int))
    (fun as i x es _ hx ⟨A, hA, he⟩ _ => ⟨A, by rw [List.take_add_one]; exact hA.trans (List.sublist_append_left _ _), he⟩)
    (fun as i x es _ hx ⟨A, hA, he⟩ _ => EVP.imp (ev_var (i := 2) (d := .int x)) fun d ed => ⟨A ++ [x], by rw [List.take_add_one, hx]; exact hA.append (List.Sublist.refl _), by rw [he, ed]; exact intsD_snoc.symm⟩)
    (fun as i es ⟨A, hA, he⟩ => by
      rw [he, List.length_map]
      have := hA.length_le
      rw [List.length_take] at this
      omega))) fun d ⟨ds, ⟨as, eas, A, hA, he⟩, ed⟩ => ⟨ds, ⟨A, by rw [List.take_length, eas] at hA; exact hA, he⟩, ed⟩)) fun v d B2 H2 p g hv => k v d B2 H2 ?_ g hv
  obtain ⟨ds, ⟨A, hA, he⟩, ed⟩ := p
  subst he
  exact ⟨A, ⟨lu.asc.sublist hA, fun x hx => lu.bd x (hA.subset hx)⟩, ed⟩
abbrev nm__law_some : List PySem.Str := [("_law_draws_here" : PySem.Str), ("_law_worlds" : PySem.Str), ("_law_first_here" : PySem.Str), ("_law_more" : PySem.Str), ("_law_world" : PySem.Str)]
abbrev ps__law_some : List PySem.Str := [("_law_draws_here" : PySem.Str), ("_law_worlds" : PySem.Str)]
theorem sc__law_some : FnScope nm__law_some ps__law_some (defScope st__law_some) := ⟨rfl, rfl, rfl, by decide +kernel, rfl, by decide +kernel, by decide +kernel⟩
/- slots: 0:_law_draws_here 1:_law_worlds 2:_law_first_here 3:_law_more 4:_law_world -/
theorem ok__law_some (T : Tx K mg) : OkF P w K mg base CX0 "_law_some" 3 ps__law_some
    (PD (fun n : Nat => 1 ≤ n ∧ n ≤ 12) (fun n => [.int (n : Int)]) (fun n d => ∃ A, (Lot (n : Int) A ∧ A ≠ []) ∧ d = lotD A)) := by
  refine Df.ok T.d__law_some sc__law_some (fun _ _ _ _ _ _ us hl => match us, hl with | [_, _], _ => rfl) (pd_len fun _ => rfl) (fun cdv A outer s H vs Q E hr h => ?_)
  obtain ⟨n, B, a, ⟨hn1, hn2⟩, e, dr, st, k⟩ := pd_open (N := nm__law_some) h
  refine ⟨_, PSs.nox (pss_cons (ps_set (i := 2) sc__law_some.nd rfl (Or.inr rfl) (pe_callO (ok__law_take T) (hr.mono (by decide)) (pa_cons (pv 0) (pa_cons (pv 1) pa_nil))))
      (pss_cons (ps_set (i := 3) sc__law_some.nd rfl (Or.inr rfl) (pe_callO (ok__law_lot T) (hr.mono (by decide)) (pa_cons (pv 0) (pa_cons (pv 1) pa_nil))))
      (pss_one (ps_ret (pe_callTy (call_tuple_k (K := K)) (by rfl) T.b_tuple boot_tuple (pa_cons (pe_lc (own := [("_law_world", 4)]) rfl sc__law_some.nd (pi_range1 (by rfl) T.b_range (pa_cons (pv 1) pa_nil)) (blkOk_by (N := nm__law_some) (sc := (defScope st__law_some)) (by decide +kernel)) (fun _ _ _ _ _ => (pg_name (i := 4) sc__law_some.nd rfl (Or.inl rfl))) (fun _ _ _ _ _ => (pts_one (PW.pt (pw_or (pt_cmpR op_eq (pv 4) (pv 2) (nomark _)) (pw_or1 (pt_cmpR (op_in_k (K := K)) (pv 4) (pv 3) (by rfl))))))) (fun _ _ _ _ _ => (pv 4))) pa_nil)))))), ?_⟩
  have lu : Lot (n : Int) (upto n) := by
    have := lot_upto (n := (n : Int)) (by omega)
    rwa [Int.toNat_natCast] at this
  refine q_set st (evp_take (b := (n : Int)) (i := 0) rfl (by omega) (ev_var (i := 1))) fun d1 σ1 B1 H1 ⟨f, hf, ed⟩ st1 => ?_
  subst ed
  refine q_set st1 (ev_callD (i := 0) rfl n hn2 (ea_one (ev_var (i := 1)))) fun d2 σ2 B2 H2 ⟨M, hM, ed⟩ st2 => ?_
  subst ed
  refine s_ret st2 (ev_tuple (EO.ev (eo_lc Dt.int (fun x => [(4, .int x)]) (upto n) (ei_to (ei_rng1 (ev_var (i := 1)) (by omega)) rangeD0) (by rw [upto_len]; omega) (fun _ _ => eg_name) (by intro a _ j hj; simpa using hj) (fun x => decide (x = f) || decide (x ∈ M))
    (fun x _ => et_or (et_test (ev_eqI (ev_var (i := 4)) (ev_var (i := 2)))) fun _ => et_test (ev_in (ev_var (i := 4)) (ev_var (i := 3)))) Dt.int (fun x _ _ => ev_var (i := 4))))) fun v d B3 H3 p g hv => k v d B3 H3 ⟨(upto n).filter fun x => decide (x = f) || decide (x ∈ M), ⟨lu.filter _, fun z => ?_⟩, p⟩ g hv
  have := List.filter_eq_nil_iff.mp z f (mem_upto.mpr hf)
  simp at this
abbrev nm__law_size : List PySem.Str := [("_law_draws_here" : PySem.Str), ("_law_sizes" : PySem.Str)]
abbrev ps__law_size : List PySem.Str := [("_law_draws_here" : PySem.Str)]
theorem sc__law_size : FnScope nm__law_size ps__law_size (defScope st__law_size) := ⟨rfl, rfl, rfl, by decide +kernel, rfl, by decide +kernel, by decide +kernel⟩
/- slots: 0:_law_draws_here 1:_law_sizes -/
theorem ok__law_size (T : Tx K mg) : OkF P w K mg base CX0 "_law_size" 2 ps__law_size
    (PD (fun _ : Unit => True) (fun _ => []) (fun _ d => ∃ n : Nat, (1 ≤ n ∧ n ≤ 5) ∧ d = .int (n : Int))) := by
  refine Df.ok T.d__law_size sc__law_size (fun _ _ _ _ _ _ us hl => match us, hl with | [_], _ => rfl) (pd_len fun _ => rfl) (fun cdv A outer s H vs Q E hr h => ?_)
  obtain ⟨n, B, a, _, e, dr, st, k⟩ := pd_open (N := nm__law_size) h
  refine ⟨_, PSs.nox (pss_cons (ps_set (i := 1) sc__law_size.nd rfl (Or.inl rfl) (pe_lst (pa_cons pe_int (pa_cons pe_int (pa_cons pe_int (pa_cons pe_int (pa_cons pe_int (pa_cons pe_int (pa_cons pe_int (pa_cons pe_int (pa_cons pe_int (pa_cons pe_int (pa_cons pe_int (pa_cons pe_int pa_nil))))))))))))))
      (pss_one (ps_ret (pe_ix (ix_list_k (K := K)) (pv 1) (pe_callO (ok__law_take T) (hr.mono (by decide)) (pa_cons (pv 0) (pa_cons pe_int pa_nil))) (fun _ _ => rfl))))), ?_⟩
  refine q_setE st (d := .lst (intsD [3, 1, 2, 3, 4, 4, 3, 4, 2, 3, 4, 5])) (EO.ev (eo_lst (ea_cons ev_int (ea_cons ev_int (ea_cons ev_int (ea_cons ev_int (ea_cons ev_int (ea_cons ev_int (ea_cons ev_int (ea_cons ev_int (ea_cons ev_int (ea_cons ev_int (ea_cons ev_int (ea_one ev_int)))))))))))))) fun σ1 B1 H1 st1 => ?_
  refine s_ret st1 (evp_ixL (Pl := fun l => l = intsD [3, 1, 2, 3, 4, 4, 3, 4, 2, 3, 4, 5]) (Pi := fun i => i < 12) (P := fun d => ∃ n : Nat, (1 ≤ n ∧ n ≤ 5) ∧ d = .int (n : Int)) (EVP.imp (ev_var (i := 1)) fun d e => ⟨_, rfl, e⟩)
    (EVP.imp (evp_take (b := 12) (i := 0) rfl (by decide) ev_int) fun d ⟨i, hi, ed⟩ => ⟨i.toNat, by omega, by rw [ed]; congr 1; omega⟩) fun l i hl hi => ?_) k
  subst hl
  match i, hi with
  | 0, _ => exact ⟨_, rfl, 3, by decide, rfl⟩
  | 1, _ => exact ⟨_, rfl, 1, by decide, rfl⟩
  | 2, _ => exact ⟨_, rfl, 2, by decide, rfl⟩
  | 3, _ => exact ⟨_, rfl, 3, by decide, rfl⟩
  | 4, _ => exact ⟨_, rfl, 4, by decide, rfl⟩
  | 5, _ => exact ⟨_, rfl, 4, by decide, rfl⟩
  | 6, _ => exact ⟨_, rfl, 3, by decide, rfl⟩
  | 7, _ => exact ⟨_, rfl, 4, by decide, rfl⟩
  | 8, _ => exact ⟨_, rfl, 2, by decide, rfl⟩
  | 9, _ => exact ⟨_, rfl, 3, by decide, rfl⟩
  | 10, _ => exact ⟨_, rfl, 4, by decide, rfl⟩
  | 11, _ => exact ⟨_, rfl, 5, by decide, rfl⟩
  | i + 12, h => omega
def madeL (os Ls : List (List Int)) : List Case := Ls.map fun A => (A, A.filter fun x => decide (x ∈ os.map fun o => firstOf o A))
abbrev nm__law_made : List PySem.Str := [("_law_orders_here" : PySem.Str), ("_law_lots_here" : PySem.Str), ("_law_cases" : PySem.Str), ("_law_lot_here" : PySem.Str), ("_law_firsts" : PySem.Str), ("_law_order" : PySem.Str), ("_law_world" : PySem.Str)]
abbrev ps__law_made : List PySem.Str := [("_law_orders_here" : PySem.Str), ("_law_lots_here" : PySem.Str)]
theorem sc__law_made : FnScope nm__law_made ps__law_made (defScope st__law_made) := ⟨rfl, rfl, rfl, by decide +kernel, rfl, by decide +kernel, by decide +kernel⟩
/- slots: 0:_law_orders_here 1:_law_lots_here 2:_law_cases 3:_law_lot_here 4:_law_firsts 5:_law_order 6:_law_world -/
theorem ok__law_made (T : Tx K mg) : OkF P w K mg base CX0 "_law_made" 2 ps__law_made
    (PF (fun p : List (List Int) × List (List Int) => p.1.length ≤ 1000 ∧ p.2.length ≤ 1000 ∧ ∀ A ∈ p.2, A.length ≤ 1000) (fun p => [.lst (p.1.map lotD), .lst (p.2.map lotD)]) (fun p r => r = casesL (madeL p.1 p.2))) := by
  refine Df.ok T.d__law_made sc__law_made (fun _ _ _ _ _ _ us hl => match us, hl with | [_, _], _ => rfl) (pf_len fun _ => rfl) (fun cdv A outer s H vs Q E hr h => ?_)
  obtain ⟨⟨os, Ls⟩, B, ⟨h1, h2, h3⟩, e, st, k⟩ := pf_open (N := nm__law_made) h
  dsimp only at h1 h2 h3 st k
  refine ⟨_, PSs.nox (pss_cons (ps_set (i := 2) sc__law_made.nd rfl (Or.inl rfl) (pe_lst pa_nil))
      (pss_cons (ps_for PassesOwn.never rfl (pi_seq_k (K := K) (pv 1)) (pg_name (i := 3) sc__law_made.nd rfl (Or.inr rfl)) (pss_cons (ps_set (i := 4) sc__law_made.nd rfl (Or.inr rfl) (pe_lc (own := [("_law_order", 5)]) rfl sc__law_made.nd (pi_seq_k (K := K) (pv 0)) (blkOk_by (N := nm__law_made) (sc := (defScope st__law_made)) (by decide +kernel)) (fun _ _ _ _ _ => (pg_name (i := 5) sc__law_made.nd rfl (Or.inl rfl))) (fun _ _ _ _ _ => pts_nil) (fun _ _ _ _ _ => (pe_callO (ok__law_first T) (hr.mono (by decide)) (pa_cons (pv 5) (pa_cons (pv 3) pa_nil))))))
      (pss_one (ps_expr (pe_bm PySem.F.plainAttrs_list PySem.F.slot_list_append PySem.F.type_list_append mt_append (pv 2) (pa_cons (pe_tup (pa_cons (pv 3) (pa_cons (pe_callTy (call_tuple_k (K := K)) (by rfl) T.b_tuple boot_tuple (pa_cons (pe_lc (own := [("_law_world", 6)]) rfl sc__law_made.nd (pi_seq_k (K := K) (pv 3)) (blkOk_by (N := nm__law_made) (sc := (defScope st__law_made)) (by decide +kernel)) (fun _ _ _ _ _ => (pg_name (i := 6) sc__law_made.nd rfl (Or.inl rfl))) (fun _ _ _ _ _ => (pts_one (pt_cmpR (op_in_k (K := K)) (pv 6) (pv 4) (by rfl)))) (fun _ _ _ _ _ => (pv 6))) pa_nil)) pa_nil))) pa_nil))))))
      (pss_one (ps_ret (pv 2))))), ?_⟩
  refine q_new st (eo_lst ea_nil) e fun σ1 B1 H1 st1 => ?_
  refine q_for lotD (fun A => [(3, lotD A)]) Ls st1 (ei_seqA (ev_var (i := 1)) (.inl rfl)) (fun _ _ => eg_name) (fun i ρ' => ρ' = [.dat (.lst (os.map lotD)), .dat (.lst (Ls.map lotD)), .own ((madeL os (Ls.take i)).map caseD), .any, .any, .any, .any]) rfl ?_ ?_
  · rintro Bj i L ρ' σ' B2 H2 hL rfl st2
    have hi : i < Ls.length := (List.getElem?_eq_some_iff.mp hL).1
    have l3 := h3 L (List.mem_of_getElem? hL)
    refine q_setE st2 (d := .lst (intsD (os.map fun o => firstOf o L))) (EV.to (EO.ev (eo_lcm lotD (fun o => [(5, lotD o)]) os (ei_seqA (ev_var (i := 0)) (.inl rfl)) (by omega) (fun _ _ => eg_name) (by intro a _ j hj; simpa using hj) (fun o => Dt.int (firstOf o L))
      (fun o _ => EVP.imp (ev_call (o, L) trivial (ea_cons (ev_var (i := 5)) (ea_one (ev_var (i := 3))))) fun d z => z))) (congrArg Dt.lst (by show _ = List.map Dt.int (List.map _ _); rw [List.map_map]; rfl))) fun σ3 B3 H3 st3 => ?_
    refine s_app st3 rfl (P := fun d => d = caseD (L, L.filter fun x => decide (x ∈ os.map fun o => firstOf o L))) (ev_tup (ea_cons (ev_var (i := 3)) (ea_one (ev_tuple (EO.ev (eo_lc Dt.int (fun x => [(6, .int x)]) L (ei_seqA (ev_var (i := 3)) (.inr rfl)) (by omega) (fun _ _ => eg_name) (by intro a _ j hj; simpa using hj) (fun x => decide (x ∈ os.map fun o => firstOf o L))
      (fun x _ => et_test (ev_inL (ev_var (i := 6)) (ev_var (i := 4)))) Dt.int (fun x _ _ => ev_var (i := 6)))))))) (by unfold madeL; rw [List.length_map, List.length_map, List.length_take]; omega) fun d B4 H4 p st4 => ⟨_, B4, rfl, ?_⟩
    subst p
    have q : (madeL os (Ls.take i)).map caseD ++ [caseD (L, L.filter fun x => decide (x ∈ os.map fun o => firstOf o L))] = (madeL os (Ls.take (i + 1))).map caseD := by
      unfold madeL
      rw [List.take_add_one, hL, List.map_append, List.map_append]
      rfl
    rw [q] at st4
    exact st4.weak (.same (.same (.same (.any (.any (.any (.any .nil)))))))
  · rintro ρ' σ' B2 H2 rfl st2
    rw [List.take_length] at st2
    obtain ⟨B3, st3⟩ := st2.know (i := 2) rfl
    exact s_ret st3 (ev_var (i := 2)) fun v d B5 H5 p g hv => k v d B5 H5 p g hv
abbrev nm__law_spoil : List PySem.Str := [("_law_draws_here" : PySem.Str), ("_law_worlds" : PySem.Str), ("_law_cases" : PySem.Str), ("_law_wild" : PySem.Str), ("_law_spoiled" : PySem.Str), ("_law_rows" : PySem.Str), ("_law_at" : PySem.Str), ("_law_lot_here" : PySem.Str), ("_law_chosen" : PySem.Str), ("_law_part" : PySem.Str)]
abbrev ps__law_spoil : List PySem.Str := [("_law_draws_here" : PySem.Str), ("_law_worlds" : PySem.Str), ("_law_cases" : PySem.Str), ("_law_wild" : PySem.Str)]
theorem sc__law_spoil : FnScope nm__law_spoil ps__law_spoil (defScope st__law_spoil) := ⟨rfl, rfl, rfl, by decide +kernel, rfl, by decide +kernel, by decide +kernel⟩
/- slots: 0:_law_draws_here 1:_law_worlds 2:_law_cases 3:_law_wild 4:_law_spoiled 5:_law_rows 6:_law_at 7:_law_lot_here 8:_law_chosen 9:_law_part -/
theorem ok__law_spoil (T : Tx K mg) : OkF P w K mg base CX0 "_law_spoil" 4 ps__law_spoil
    (PD (fun p : Nat × List Case × Int => 1 ≤ p.1 ∧ p.1 ≤ 12 ∧ (∀ c ∈ p.2.1, GoodC (p.1 : Int) c) ∧ p.2.1.length ≤ 80) (fun p => [.int (p.1 : Int), casesL p.2.1, .int p.2.2])
      (fun p d => ∃ cs : List Case, (cs.map (·.1) = p.2.1.map (·.1) ∧ ∀ c ∈ cs, GoodC (p.1 : Int) c) ∧ d = casesL cs)) := by
  refine Df.ok T.d__law_spoil sc__law_spoil (fun _ _ _ _ _ _ us hl => match us, hl with | [_, _, _, _], _ => rfl) (pd_len fun _ => rfl) (fun cdv A outer s H vs Q E hr h => ?_)
  obtain ⟨⟨n, cs, wild⟩, B, a, ⟨hn1, hn2, hg, few⟩, e, dr, st, k⟩ := pd_open (N := nm__law_spoil) h
  dsimp only at hn1 hn2 hg few st k
  have hdr : ∀ b, some a = some b → Dr b B H := fun b z => by
    cases z
    exact dr
  refine ⟨_, PSs.nox (pss_cons (ps_set (i := 4) sc__law_spoil.nd rfl (Or.inl rfl) (pe_callO (ok__law_take T) (hr.mono (by decide)) (pa_cons (pv 0) (pa_cons (pe_op op_add (pe_callB (call_len_k (K := K)) (by rfl) T.b_len boot_len (pa_cons (pv 2) pa_nil)) pe_int) pa_nil))))
      (pss_cons (ps_set (i := 5) sc__law_spoil.nd rfl (Or.inl rfl) (pe_lst pa_nil))
      (pss_cons (ps_for PassesOwn.never rfl (pi_range1 (by rfl) T.b_range (pa_cons (pe_callB (call_len_k (K := K)) (by rfl) T.b_len boot_len (pa_cons (pv 2) pa_nil)) pa_nil)) (pg_name (i := 6) sc__law_spoil.nd rfl (Or.inl rfl)) (pss_cons (ps_set (i := 7) sc__law_spoil.nd rfl (Or.inl rfl) (pe_ix (ix_tup_k (K := K)) (pe_ix (ix_list_k (K := K)) (pv 2) (pv 6) (fun _ _ => rfl)) pe_int (fun _ _ => rfl)))
      (pss_cons (ps_set (i := 8) sc__law_spoil.nd rfl (Or.inl rfl) (pe_ix (ix_tup_k (K := K)) (pe_ix (ix_list_k (K := K)) (pv 2) (pv 6) (fun _ _ => rfl)) pe_int (fun _ _ => rfl)))
      (pss_cons (ps_if (PW.pt (pw_or (pt_cmpR op_eq (pv 3) pe_int (nomark _)) (pw_or1 (PW.pt (pw_and (pt_cmpR op_eq (pv 3) pe_int (nomark _)) (pw_and1 (pt_cmpR op_eq (pv 6) (pv 4) (nomark _)))))))) (pss_cons (ps_set (i := 9) sc__law_spoil.nd rfl (Or.inl rfl) (pe_callO (ok__law_common T) (hr.mono (by decide)) (pa_cons (pe_callO (ok__law_some T) (hr.mono (by decide)) (pa_cons (pv 0) (pa_cons (pv 1) pa_nil))) (pa_cons (pv 7) pa_nil))))
      (pss_one (ps_set (i := 8) sc__law_spoil.nd rfl (Or.inl rfl) (pe_ifExp (pt_cmpR op_gt (pe_callB (call_len_k (K := K)) (by rfl) T.b_len boot_len (pa_cons (pv 9) pa_nil)) pe_int (nomark _)) (pv 9) (pv 7))))) pss_nil)
      (pss_one (ps_expr (pe_bm PySem.F.plainAttrs_list PySem.F.slot_list_append PySem.F.type_list_append mt_append (pv 5) (pa_cons (pe_tup (pa_cons (pv 7) (pa_cons (pv 8) pa_nil))) pa_nil))))))))
      (pss_one (ps_ret (pv 5)))))), ?_⟩
  refine q_set st (evp_take (b := (cs.length : Int) + 1) (i := 0) rfl (by omega) (ev_add (EV.to (ev_lenS (ev_var (i := 2)) (.inl rfl)) (by rw [List.length_map])) ev_int)) fun d1 σ1 B1 H1 ⟨sp, hsp, ed⟩ st1 => ?_
  subst ed
  refine q_setO st1 (eo_lst ea_nil) hdr e fun ds σ2 B2 H2 eds st2 => ?_
  subst eds
  refine q_for (fun p : Nat × Case => Dt.int (p.1 : Int)) (fun p => [(6, .int (p.1 : Int))]) (enumP 0 cs) st2 (ei_to (ei_rng1 (n := cs.length) (EV.to (ev_lenS (ev_var (i := 2)) (.inl rfl)) (by rw [List.length_map])) (by omega)) ?_) (fun _ _ => eg_name)
    (fun i ρ' => ∃ cs' : List Case, ρ' = [.drw, .dat (.int (n : Int)), .dat (casesL cs), .dat (.int wild), .dat (.int sp), .own (cs'.map caseD), .any, .any, .any, .any] ∧ cs'.map (·.1) = (cs.take i).map (·.1) ∧ ∀ c ∈ cs', GoodC (n : Int) c) ⟨[], rfl, rfl, fun c hc => by cases hc⟩ ?_ ?_
  · apply List.ext_getElem?
    intro i
    rw [List.getElem?_map, enumP_get]
    by_cases hi : i < cs.length
    · rw [rangeD_get hi, List.getElem?_eq_getElem hi, Nat.zero_add, Int.zero_add]
      rfl
    · rw [List.getElem?_eq_none (by rw [rangeD_len]; omega), List.getElem?_eq_none (by omega)]
      rfl
  · rintro Bj i ⟨i', c⟩ ρ' σ' B3 H3 ha ⟨cs', rfl, hl, hg'⟩ st3
    rw [enumP_get] at ha
    obtain ⟨c', hc, e2⟩ := Option.map_eq_some_iff.mp ha
    obtain ⟨rfl, rfl⟩ := Prod.mk.inj e2
    rw [Nat.zero_add] at st3
    have hi : i < cs.length := (List.getElem?_eq_some_iff.mp hc).1
    have gc := hg c' (List.mem_of_getElem? hc)
    have ll := gc.l.len12 (by omega)
    have len' : cs'.length = i := by
      have := congrArg List.length hl
      rw [List.length_map, List.length_map, List.length_take] at this
      omega
    have hcs : ((cs.map caseD))[i]? = some (caseD c') := by rw [List.getElem?_map, hc]; rfl
    refine q_setE st3 (ev_ixT (i := 0) (d := lotD c'.1) (ev_ixL (i := i) (d := caseD c') (ev_var (i := 2)) (ev_var (i := 6)) hcs) ev_int rfl) fun σ4 B4 H4 st4 => ?_
    refine q_setE st4 (ev_ixT (i := 1) (d := lotD c'.2) (ev_ixL (i := i) (d := caseD c') (ev_var (i := 2)) (ev_var (i := 6)) hcs) ev_int rfl) fun σ5 B5 H5 st5 => ?_
    refine q_ifN st5 (et_or (et_test (ev_eqI (ev_var (i := 3)) ev_int)) fun _ => et_and (et_test (ev_eqI (ev_var (i := 3)) ev_int)) fun _ => et_test (ev_eqI (ev_var (i := 6)) (ev_var (i := 4)))) (fun hb B6 H6 st6 => ?_) (fun hb B6 H6 st6 => ?_)
    · refine q_set st6 (P := fun d => ∃ M, (Lot (n : Int) M ∧ ∀ x ∈ M, x ∈ c'.1) ∧ d = lotD M) (EVP.imp (evp_callP (fun p : List Int × List Int => Lot (n : Int) p.1 ∧ p.2 = c'.1) (fun p hp => by have := hp.1.len12 (by omega); omega)
        (EAP.imp (eap_cons (ev_callD (i := 0) rfl n ⟨hn1, hn2⟩ (ea_one (ev_var (i := 1)))) (ea_one (ev_var (i := 7) (d := lotD c'.1)))) fun l ⟨x, r, ⟨M, hM, ex⟩, er, el⟩ => ⟨(M, c'.1), ⟨hM.1, rfl⟩, by rw [el, ex, er]⟩)) fun d ⟨p, ⟨hp1, hp2⟩, hr⟩ => ⟨p.1.filter fun x => decide (x ∈ p.2), ⟨hp1.filter _, fun x hx => by
          have := of_decide_eq_true (List.mem_filter.mp hx).2
          rw [hp2] at this
          exact this⟩, hr⟩) fun d6 σ7 B7 H7 ⟨M, ⟨hM, hsub⟩, ed⟩ st7 => ?_
      subst ed
      by_cases hne : M = []
      · subst hne
        refine s_setE st7 (d := lotD c'.1) (ev_if (b := false) (et_to (et_test (ev_gt (ev_lenS (ev_var (i := 9)) (.inr rfl)) ev_int)) rfl) (fun z => nomatch z) fun _ => ev_var (i := 7)) fun σ8 B8 H8 st8 => ?_
        refine s_app st8 rfl (P := fun d => d = caseD (c'.1, c'.1)) (ev_tup (ea_cons (ev_var (i := 7)) (ea_one (ev_var (i := 8))))) (by rw [List.length_map]; omega) fun d B9 H9 p st9 => ⟨_, B9, ⟨cs' ++ [(c'.1, c'.1)], rfl, ?_, ?_⟩, ?_⟩
        · rw [List.map_append, hl, List.take_add_one, hc, List.map_append]
          rfl
        · intro c hc2
          rcases List.mem_append.mp hc2 with h | h
          · exact hg' c h
          · have e5 : c = (c'.1, c'.1) := by simpa using h
            rw [e5]
            exact ⟨gc.l, gc.l, gc.ne1, fun x hx => hx⟩
        · subst p
          rw [List.map_append]
          exact st9.weak (.same (.same (.same (.same (.same (.same (.any (.any (.any (.any .nil))))))))))
      · refine s_setE st7 (d := lotD M) (ev_if (b := true) (et_to (et_test (ev_gt (ev_lenS (ev_var (i := 9)) (.inr rfl)) ev_int)) (decide_eq_true (by
          have := List.length_pos_iff.mpr hne
          rw [List.length_map]
          omega))) (fun _ => ev_var (i := 9)) fun z => nomatch z) fun σ8 B8 H8 st8 => ?_
        refine s_app st8 rfl (P := fun d => d = caseD (c'.1, M)) (ev_tup (ea_cons (ev_var (i := 7)) (ea_one (ev_var (i := 8))))) (by rw [List.length_map]; omega) fun d B9 H9 p st9 => ⟨_, B9, ⟨cs' ++ [(c'.1, M)], rfl, ?_, ?_⟩, ?_⟩
        · rw [List.map_append, hl, List.take_add_one, hc, List.map_append]
          rfl
        · intro c hc2
          rcases List.mem_append.mp hc2 with h | h
          · exact hg' c h
          · have e5 : c = (c'.1, M) := by simpa using h
            rw [e5]
            exact ⟨gc.l, hM, hne, hsub⟩
        · subst p
          rw [List.map_append]
          exact st9.weak (.same (.same (.same (.same (.same (.same (.any (.any (.any (.any .nil))))))))))
    · refine s_app st6 rfl (P := fun d => d = caseD c') (ev_tup (ea_cons (ev_var (i := 7)) (ea_one (ev_var (i := 8))))) (by rw [List.length_map]; omega) fun d B9 H9 p st9 => ⟨_, B9, ⟨cs' ++ [c'], rfl, ?_, ?_⟩, ?_⟩
      · rw [List.map_append, hl, List.take_add_one, hc, List.map_append]
        rfl
      · intro c hc2
        rcases List.mem_append.mp hc2 with h | h
        · exact hg' c h
        · have e5 : c = c' := by simpa using h
          rw [e5]
          exact gc
      · subst p
        rw [List.map_append]
        exact st9.weak (.same (.same (.same (.same (.same (.same (.any (.any (.any (.any .nil))))))))))
  · rintro ρ' σ' B3 H3 ⟨cs', rfl, hl, hg'⟩ st3
    rw [enumP_len, List.take_length] at hl
    obtain ⟨B4, st4⟩ := st3.know (i := 5) rfl
    exact s_ret st4 (ev_var (i := 5)) fun v d B5 H5 p g hv => k v d B5 H5 ⟨cs', ⟨hl, hg'⟩, p⟩ g hv
end
end K37
/-! K37Q: own exceptions over Exception, with a field -/
namespace PySem
namespace LowX
open PySem.W PySem.Calls PyProof.Rows PySem.HandSPX
theorem one_size (v : Value) : [v].length ≤ sizeLine := by
  rw [sizeLine_eq]
  exact (by decide : 1 ≤ 16777216)
theorem kept_but {K : Frag} {h h' : Heap} {x : Addr} (X : K.In h) (hx : K.lookup x = none) (k : ∀ b o, b ≠ x → h.get? b = some o → h'.get? b = some o) : K.In h' := fun a o e =>
  k a o (fun z => by rw [z, hx] at e; cases e) (X a o e)
theorem ldC {M : Model} {s : Shared} {name : Str} {scope : Scope} {L a : Addr} {cd : Value} {m : Str → Option Value} {x : Str} {pos : Pos} {v : Value} {Q : Value → Shared → Prop} {A : Around} {E : Value → Shared → Prop} (hn : s.heap.Ns L m) (hv : m x = some v) (h : Q v s)
    (hk : scope.kind = .function := by rfl) (hl : (envOfC name scope L a cd).kindOf x = some .local := by rfl) (hd : (x == ("__debug__" : Str)) = false := by decide) :
    wpAny M A (eval (.Name x pos) (envOfC name scope L a cd)) Q E s := wpAny_Name (wpAny_loadName_local hk hl hn hv h) hd
/-- the chain behind a class of ours: the base at N, then Exception's -/
abbrev tailN (N : Addr) : List Value := .ref N :: ESX.exTail
theorem tailN_has (N : Addr) (X : String) : (tailN N).contains (.type X) = ESX.exTail.contains (.type X) := by
  show List.contains (Value.ref N :: ESX.exTail) (.type X) = _
  rw [List.contains_cons]
  have e : (Value.type X == Value.ref N) = false := by simp
  rw [e, Bool.false_or]
section
open Builtin Builtin.ObjectAttr
variable {prog : Program} {w : World} {A : Around} {E : Value → Shared → Prop} {R : Result → Shared → Prop} {hp : Heap} {g : Array GenState} {d : Drawn} {t : Nat} {os : OsState}
theorem osa_ex {K : W.Frag} {name : Str} {tk : Tok} {v : Value} {x C N : Addr} {fv : Array Value} {cd : ClassData}
    (X : K.In hp) (hx : hp.get? x = some { cls := .ref C, data := .fields fv }) (hcd : W.clsIn K C = some cd) (hm : cd.mro = .ref C :: tailN N) (hh : cd.hasDict = true) (ha : W.findIn K (.ref C) name = some none)
    (hq : ∀ h' tk' dx, (∀ b o, b ≠ x → hp.get? b = some o → h'.get? b = some o) → hp.objs.size ≤ dx → dx ≠ x → h'.get? x = some { cls := .ref C, dict := some dx, data := .fields fv } →
      h'.Ns1 dx (fun y => if y = name then some v else none) → R (.ok (.ret .none)) ⟨h', g, d, tk', os⟩) :
    codeAny (model prog w) A (.call (.builtin "object.__setattr__") ⟨[.ref x, .str name tk, v], []⟩) R ⟨hp, g, d, t, os⟩ := by
  have I : W.InstAt hp x { cls := .ref C, data := .fields fv } C none := ⟨hx, rfl, rfl, trivial⟩
  have SF := F.store_object
  have hob : cd.mro.contains (.type "object") = true := by
    rw [hm, List.contains_cons, tailN_has, show ESX.exTail.contains (.type "object") = true by decide +kernel, Bool.or_true]
  have ne : cd.mro.isEmpty = false := by rw [hm]; rfl
  have hxs : x ≠ hp.objs.size := Nat.ne_of_lt (Heap.lt_size hx)
  have sub : W.Looks (model prog w) hp (isInstance (.ref x) (.type "object")) true := I.type.andThen (W.looks_mroIn X (by unfold W.mroIn; rw [hcd, Option.bind_some, if_neg (by rw [ne]; decide), hob]))
  refine codeAny_call_builtin SF.slot.plain SF.entry (@W.check_slot (model prog w) _ _ ⟨hp, g, d, t, os⟩ "object.__setattr__" "object" "__setattr__" (.ref x) [.str name tk, v] [] _ SF.kind SF.split sub (SF.args (.ref x) (.str name tk) v) ?_)
  have hmr : W.Looks (model prog w) hp (mroOf (.ref C)) cd.mro := (W.looks_clsIn X hcd).andThen .now
  have L3 : W.Looks (model prog w) hp (storeTaker? none) none := .now
  have hcls : W.Looks (model prog w) hp (classData C) cd := W.looks_clsIn X hcd
  have hpass : refuseLoop (.ref x) "__setattr__" cd.mro = pure () := by
    rw [hm, refuseLoop_ref, refuseLoop_ref]
    exact F.store_Exception.passes _
  rw [W.osa_eq, refuse_eq]
  refine wpAny_bind (wpAny_bind (I.type.at (wpAny_bind (hmr.at ?_))))
  rw [hpass]
  refine wpAny_pure (wpAny_bind (I.type.at (wpAny_bind ((W.looks_findIn X ha).at (wpAny_bind (L3.at ?_))))))
  show wpAny _ _ (storeInOwnDict (.ref x) (.ref C) (.str name tk) name v false) _ _ _
  obtain ⟨nm, bs, mro, ns, qn, hd, sn, sb, ab, col, del⟩ := cd
  dsimp only at hh
  subst hh
  unfold storeInOwnDict ownDictForStores
  repeat (first | with_reducible refine HandSPX.store_in_new ?_ ?_ | with_reducible refine wpAny_loadPart_at hx ?_ | with_reducible refine hcls.at ?_ | wp_step)
  · exact ⟨_, #[], _, (Heap.get?_update_ne _ _ _ _ hxs.symm).trans (Heap.get?_push_at rfl rfl), rfl, fun e he => absurd he (by simp), fun _ => rfl⟩
  · intro h' tk' hn' hs
    have hx₁ : (hp.push { cls := .type "dict", data := .dict #[] }).get? x = some { cls := .ref C, data := .fields fv } := Heap.get?_push_of_some _ hx
    refine hq h' tk' hp.objs.size (fun b o hb ho => ?_) (Nat.le_refl _) hxs.symm ?_ hn'
    · exact (hs.2 b (Nat.ne_of_lt (Heap.lt_size ho))).trans ((Heap.get?_update_ne _ _ _ _ hb).trans (Heap.get?_push_of_some _ ho))
    · exact (hs.2 x hxs).trans (Heap.get?_update_self _ hx₁ rfl)
end
end LowX
end PySem
namespace PySem
namespace LowX
namespace BadOrderX
open PySem.W PySem.Calls PyProof.Rows PySem.HandSPX
/-! ### the text of __init__ -/
def iA (p1 p2 : Pos) : Arguments := { posonlyargs := [], args := [{ arg := "self", annotation := none, pos := p1 }, { arg := "place", annotation := none, pos := p2 }], vararg := none, kwonlyargs := [], kw_defaults := [], kwarg := none, defaults := [] }
def iB (q1 q2 q3 q4 : Pos) : List Stmt := [.Assign [.Attribute (.Name "self" q1) "place" q2] (.Name "place" q3) q4]
def iS : Scope := { kind := .function, names := [(PySem.Str.ofString "self", .local), (PySem.Str.ofString "place", .local)], isGenerator := false, isCoroutine := false, more := [] }
/-- what the written part says of Low, at C, and of its __init__, at fI -/
structure LowTxt (K : Frag) (mg : Str → Option Value) (C fI : Addr) : Prop where
  gC : mg "BadOrder" = some (.ref C)
  cls : ∃ nm q N bs NE sn sub ab col dd k0 k1 k2 k3 k5, K.lookup C = some (excClassObj nm q C N bs (tailN NE) true sn sub ab col dd k0 k1 k2 k3 k5 "Exception.__new__")
  sa : findIn K (.ref C) "__setattr__" = some (some (.builtin "object.__setattr__"))
  ga : findIn K (.ref C) "__getattribute__" = some (some (.builtin "BaseException.__getattribute__"))
  gg : findIn K (.ref C) "__getattr__" = some none
  noN : findIn K (.ref C) "place" = some none
  iC : findIn K (.ref C) "__init__" = some (some (.ref fI))
  tC : typeIn K (.ref fI) = some (.type "function")
  kC : keepIn K (.ref C) = true
  exC : subIn K (.ref C) (.type "BaseException") = some true
  tyC : typeIn K (.ref C) = some (.type "type")
  hdC : hasDictIn K C = true
  te : exmOne K (.ref C) (.ref C) = some true
  fn : ∃ (oc : Value) (od : Option Addr) (kV doc pm : Value) (an : Option Addr) (cdv ct : Value) (osl : Array (Option Value)) (p1 p2 q1 q2 q3 q4 : Pos),
    K.lookup fI = some ⟨oc, od, .func (fnOf "__init__" "BadOrder.__init__" (iA p1 p2) (iB q1 q2 q3 q4) iS .none kV doc pm an cdv ct), osl⟩ ∧ codeIn K cdv "BadOrder.__init__" = true
/-- what __init__ leaves of a fresh exception at x -/
structure InitEnd (h h' : Heap) (x C dx t1 : Addr) (v : Value) : Prop where
  keep : ∀ b o, b ≠ x → h.get? b = some o → h'.get? b = some o
  obj : h'.get? x = some { cls := .ref C, dict := some dx, data := .fields #[.ref t1, .none, .none, .none, .bool false, .none] }
  dbig : h.objs.size ≤ dx
  dne : dx ≠ x
  ns : h'.Ns1 dx (fun y => if y = "place" then some v else none)
/-- a made Low -/
structure OwnMade (h h' : Heap) (e C d : Addr) (v : Value) : Prop where
  keep : ∀ b o, h.get? b = some o → h'.get? b = some o
  new : h.objs.size ≤ e
  obj : ∃ oe vs, h'.get? e = some oe ∧ oe.cls = .ref C ∧ oe.dict = some d ∧ oe.data = .fields vs ∧ vs[1]? = some .none
  dbig : h.objs.size ≤ d
  dne : d ≠ e
  ns : h'.Ns1 d (fun y => if y = "place" then some v else none)
section
variable {prog : Program} {w : World} {A : Around} {E : Value → Shared → Prop} {R : Result → Shared → Prop} {s : Shared} {K : Frag} {mg : Str → Option Value} {C fI : Addr}
theorem low_init (T : LowTxt K mg C fI) {x t0 : Addr} {v : Value} (X : K.In s.heap) (hlim : s.heap.NoLimit) (hx : s.heap.get? x = some (excO C t0)) (hnx : K.lookup x = none) (hroom : A.depth < recursionLimit)
    (hq : ∀ h' tk dx, InitEnd s.heap h' x C dx t0 v → R (.ok (.ret .none)) { s with heap := h', toks := tk }) :
    codeAny (model prog w) A (.call (.ref fI) ⟨[.ref x, v], []⟩) R s := by
  obtain ⟨oc, od, kV, doc, pm, an, cdv, ct, osl, p1, p2, q1, q2, q3, q4, ho, hcd⟩ := T.fn
  obtain ⟨nm, q, N, bs, NE, sn, sub, ab, col, dd, k0, k1, k2, k3, k5, hC⟩ := T.cls
  have hcl : clsIn K C = some { name := nm, bases := bs, mro := .ref C :: tailN NE, ns := N, qualname := q, hasDict := true, slotNames := sn, subclasses := sub, abstract := ab, collection := col, hasDel := false } := by unfold clsIn; rw [hC] <;> rfl
  refine Att.call_fn (binds := [("self", .ref x), ("place", v)]) X hlim ho hcd hroom (BindsTo.of_eq (by first | rfl | with_unfolding_all rfl)) (by first | rfl | decide | with_unfolding_all rfl) (fun s₁ IC => ?_) rfl rfl rfl
  obtain ⟨h₁, tk₁, rfl⟩ := IC.toInCall.same
  have k : ∀ b o, s.heap.get? b = some o → h₁.get? b = some o := IC.toInCall.keep
  have hn := IC.toInCall.ns
  have hxL : s.heap.objs.size ≠ x := Nat.ne_of_gt (Heap.lt_size hx)
  have X₁ : K.In h₁ := X.keeps k
  have hx₁ := k _ _ hx
  -- self.by = by
  show wpAny _ _ (execs _ _) _ _ _
  refine wpAny_execs_cons (plainObj_wpAny_Assign_Attribute ?_)
  refine ldC (v := v) hn (by first | rfl | with_unfolding_all rfl | kernel_rfl) (ldC (v := .ref x) hn (by first | rfl | with_unfolding_all rfl | kernel_rfl) ?_)
  refine set_plain X₁ (ox := excO C t0) (od := none) ⟨hx₁, rfl, rfl, trivial⟩ T.sa ?_
  refine osa_ex (N := NE) X₁ hx₁ hcl rfl rfl T.noN (fun h₃ tk₃ dx k₃ dn dne hx₃ hn₃ => ?_)
  show wpAny _ _ (execs _ _) _ _ _
  have z : s.heap.objs.size < h₁.objs.size := hn.lt
  exact wpAny_execs_nil (hq h₃ tk₃ dx ⟨fun b o hb e => k₃ b o hb (k b o e), hx₃, Nat.le_of_lt (Nat.lt_of_lt_of_le z dn), dne, hn₃⟩)
theorem low_made (T : LowTxt K mg C fI) {v : Value} (X : K.In s.heap) (hlim : s.heap.NoLimit) (hroom : A.depth + 1 < recursionLimit)
    (hq : ∀ h' tk e d, OwnMade s.heap h' e C d v → R (.ok (.ret (.ref e))) { s with heap := h', toks := tk }) :
    codeAny (model prog w) A (.call (.ref C) ⟨[v], []⟩) R s := by
  obtain ⟨nm, q, N, bs, NE, sn, sub, ab, col, dd, k0, k1, k2, k3, k5, hC⟩ := T.cls
  obtain ⟨hp, g, dr, tk, os⟩ := s
  have k : ∀ b o, hp.get? b = some o → ((hp.push (kdv_tup [v])).push (excO C hp.objs.size)).get? b = some o := fun b o e => Heap.get?_push_of_some _ (Heap.get?_push_of_some _ e)
  have hget : ((hp.push (kdv_tup [v])).push (excO C hp.objs.size)).get? (hp.objs.size + 1) = some (excO C hp.objs.size) := by heap_get
  have hnx : K.lookup (hp.objs.size + 1) = none := by
    cases e : K.lookup (hp.objs.size + 1) with
    | none => rfl
    | some o =>
      have z : hp.get? (hp.objs.size + 1) = some o := X _ _ e
      exact absurd (Nat.lt_of_succ_lt (Heap.lt_size z)) (Nat.lt_irrefl _)
  refine call_own F.excBase_Exception (fun X => tailN_has NE X) (X _ _ hC) (looks_findIn X T.iC) (fun self => bind_fn X self T.tC) (one_size v) ?_
  refine low_init (s := ⟨(hp.push (kdv_tup [v])).push (excO C hp.objs.size), g, dr, tk, os⟩) T (X.keeps k) (hlim.keeps k) hget hnx ?_ fun h' tk' dx ⟨k', hx, dn, dne, hns⟩ => ?_
  · show A.depth + 1 < recursionLimit
    exact hroom
  · have old : ∀ b o, hp.get? b = some o → h'.get? b = some o := fun b o e => k' b o (Nat.ne_of_lt (Nat.lt_succ_of_lt (Heap.lt_size e))) (k b o e)
    have z : hp.objs.size + 1 + 1 ≤ dx := by
      first
        | (simpa only [Heap.size_push] using dn)
        | exact dn
        | (have q := dn; rw [Heap.size_push, Heap.size_push] at q; exact q)
    exact ⟨rfl, hq h' tk' (hp.objs.size + 1) dx ⟨old, Nat.le_succ _, ⟨_, _, hx, rfl, rfl, rfl, rfl⟩, Nat.le_trans (Nat.le_trans (Nat.le_succ _) (Nat.le_succ _)) z, dne, hns⟩⟩
end
end BadOrderX
end LowX
end PySem
namespace L2
open PySem PySem.Spec PyProof.Rows
theorem relO_low_BadOrder {v : V} {v' : Value} (r : RelV v v') (f : Str) : RelO (List.lookup f [(("place" : Str), v)]) (if f = "place" then some v' else none) := by
  by_cases hw : f = "place"
  · subst hw
    rw [if_pos rfl]
    have q : List.lookup ("place" : Str) [(("place" : Str), v)] = some v := by simp [List.lookup]
    rw [q]
    exact r
  · rw [if_neg hw]
    have qw : (f == ("place" : Str)) = false := by simpa using hw
    have q2 : List.lookup f [(("place" : Str), v)] = none := by simp [List.lookup, qw]
    rw [q2]
    trivial
section
variable {X : Cx} {C fI : Addr}
/-- Low(e) -/
def tMkLow_BadOrder (C : Addr) (ta : TA) : St → Hp → XK → Prop := fun σ H Q => ta σ H fun vs H1 => ∃ v, vs = [v] ∧ ∀ d, H1 d = none → Q (.ref C) (some d) (upd H1 d (.xd [(("place" : Str), v)]))
theorem pmk_low_BadOrder {a : Expr} {ta : TA} {p pos : Pos} {k : Nat} (T : PySem.LowX.BadOrderX.LowTxt X.K X.mg C fI) (hr : Room k X.A) (ha : PA X [a] ta) (hg : Gl X "BadOrder" := by rfl)
    (he : starEach (a :: []) X.env = (false, eval a X.env) :: starEach [] X.env := by rfl) (hpl : (backTo pos (starEach [] X.env)).any (·.1) = false := by rfl) :
    PMk X (.Call (.Name "BadOrder" p) [a] [] pos) (tMkLow_BadOrder C ta) := by
  intro pins s σ H Q I h
  refine wpAny_Call_Name_kw (ld_glob I hg T.gC ?_)
  refine PySem.W.callWith_K (h₀ := X.base) I.ok.mod.kin T.kC (thn (ha.run pos pins s σ H _ I h) fun us s1 hh => ?_) he hpl
  obtain ⟨vs, H1, I1, r1, v, ev, q1⟩ := hh
  subst ev
  refine ⟨I1.kIn, ?_⟩
  cases r1 with
  | cons rv rn =>
    rename_i v' us'
    cases rn
    show wpAny _ _ (call (.ref C) [v']) _ _ _
    have hlim := I1.nolimit
    obtain ⟨hp, g, dr, tk, os⟩ := s1
    refine wpAny_call (PySem.LowX.BadOrderX.low_made T I1.kIn hlim (by have := hr.dp; omega) fun h' tk' e d M => ?_)
    show MkP X pins σ Q (.ref e) ⟨h', g, dr, tk', os⟩
    obtain ⟨oe, fv, hoe, hc, hd, hdat, h1⟩ := M.obj
    have hns := M.ns
    obtain ⟨G', g1, g2⟩ := restrict h' fun b => decide (b ≠ e)
    have gk : ∀ b, b ≠ e → G'.get? b = h'.get? b := fun b hb => g1 b (decide_eq_true hb)
    have ge : G'.get? e = none := g2 e (by simp)
    have old : ∀ b o, hp.get? b = some o → G'.get? b = some o := fun b o q => (gk b (Nat.ne_of_lt (Nat.lt_of_lt_of_le (Heap.lt_size q) M.new))).trans (M.keep b o q)
    have ob : ObjOk X.prog X.w (upd H1 d (.xd [(("place" : Str), v)])) G' d (.xd [(("place" : Str), v)]) :=
      ⟨_, hns.at (fun o q => (gk d M.dne).trans q), fun f => relO_low_BadOrder rv f⟩
    have J : Inv X pins σ (upd H1 d (.xd [(("place" : Str), v)])) ⟨G', g, dr, tk', os⟩ := I1.laid (t' := tk') old M.dbig ob
    refine ⟨e, oe, fv, ⟨G', g, dr, tk', os⟩, _, .ref C, some d, rfl, J, fun b o q => ?_, ge, hoe, ⟨hc, hd⟩, hdat, h1, ?_, rfl, I1.bare, raises_own T.exC T.tyC, q1 d (I1.hok.fresh M.dbig)⟩
    · by_cases hb : b = e
      · have q' : G'.get? b = some o := q
        rw [hb, ge] at q'; cases q'
      · exact (gk b hb).symm.trans q
    · rw [upd_ne (Ne.symm M.dne)]
      exact I1.hok.fresh M.new
/-- raise Low(e) -/
def tRaiseLow_BadOrder (C : Addr) (W : WX) (ta : TA) : TS := fun _ σ H => tMkLow_BadOrder C ta σ H fun cls d H' => W cls d σ H'
theorem ps_raiseLow_BadOrder {a : Expr} {ta : TA} {W : WX} {p pos pos2 : Pos} {k : Nat} (hc : X.calm = true) (T : PySem.LowX.BadOrderX.LowTxt X.K X.mg C fI) (hr : Room k X.A) (tk : Takes X W) (ha : PA X [a] ta) (hg : Gl X "BadOrder" := by rfl)
    (he : starEach (a :: []) X.env = (false, eval a X.env) :: starEach [] X.env := by rfl) (hpl : (backTo pos (starEach [] X.env)).any (·.1) = false := by rfl) :
    PS X (.Raise (some (.Call (.Name "BadOrder" p) [a] [] pos)) none pos2) (tRaiseLow_BadOrder C W ta) := ps_raise hc tk (pmk_low_BadOrder T hr ha hg he hpl)
/-- low.by, low the exception that the suite holds (at a; its class cls, its dict d) -/
def tByLow_BadOrder (C : Addr) (a : Addr) (cls : Value) (d : Option Addr) (te : TE) : TE := fun σ H Q => te σ H fun x H1 => x = .ref a ∧ cls = .ref C ∧ ∃ (dd : Addr) (v : V), d = some dd ∧ H1 dd = some (.xd [(("place" : Str), v)]) ∧ Q v H1
theorem pe_byLow_BadOrder {a : Addr} {oe : Obj} {cls : Value} {d : Option Addr} {pn : List (Addr × Obj)} {e : Expr} {te : TE} {pos : Pos} (T : PySem.LowX.BadOrderX.LowTxt X.K X.mg C fI) (hz : Zc cls d oe) (hf : ∃ vs, oe.data = .fields vs) (he : PE (X.suite a ((a, oe) :: pn)) e te)
    (hb : attributeBase e "place" X.env (eval e X.env) = eval e X.env := by rfl) :
    PE (X.suite a ((a, oe) :: pn)) (.Attribute e "place" pos) (tByLow_BadOrder C a cls d te) := by
  refine ⟨fun pins s σ H Q I h => ?_⟩
  refine attr_of hb (thn (he.run pins s σ H _ I h) fun u s1 hh => ?_)
  obtain ⟨x, H1, I1, rx, ex, ec, dd, v, ed, ea, q⟩ := hh
  subst ex
  obtain rfl : u = Value.ref a := rx
  subst ec
  subst ed
  obtain ⟨ha, _⟩ := I1.pin (a, oe) (List.mem_append_left _ List.mem_cons_self)
  obtain ⟨vs, hd⟩ := hf
  have hx : ObjOk X.prog X.w H1 s1.heap dd (.xd [(("place" : Str), v)]) := I1.hok dd _ ea
  obtain ⟨mA, hns, hr⟩ := hx
  obtain ⟨od, ho, hl⟩ := lookIn_ns hns
  have l : List.lookup ("place" : Str) [(("place" : Str), v)] = some v := by simp [List.lookup]
  obtain ⟨u, hu, ru⟩ := RelO.some_of (v := v) (o := mA "place") (by rw [← l]; exact hr "place")
  have J : PySem.W.InstAt s1.heap a oe C (some od) := ⟨ha, hz.1, by unfold PySem.W.notCls; rw [hd] <;> rfl, by rw [hz.2]; exact ho⟩
  exact HandSPX.exc_get I1.kIn J T.ga T.gg T.exC (PySem.W.findObj_own T.hdC T.noN rfl (by rw [hl, hu])) (handed_of ru) ⟨v, H1, I1.tok _, ru, q⟩
end
end L2

namespace PySem
namespace LowX
namespace BadNumberX
open PySem.W PySem.Calls PyProof.Rows PySem.HandSPX
/-! ### the text of __init__ -/
def iA (p1 p2 : Pos) : Arguments := { posonlyargs := [], args := [{ arg := "self", annotation := none, pos := p1 }, { arg := "name", annotation := none, pos := p2 }], vararg := none, kwonlyargs := [], kw_defaults := [], kwarg := none, defaults := [] }
def iB (q1 q2 q3 q4 : Pos) : List Stmt := [.Assign [.Attribute (.Name "self" q1) "name" q2] (.Name "name" q3) q4]
def iS : Scope := { kind := .function, names := [(PySem.Str.ofString "self", .local), (PySem.Str.ofString "name", .local)], isGenerator := false, isCoroutine := false, more := [] }
/-- what the written part says of Low, at C, and of its __init__, at fI -/
structure LowTxt (K : Frag) (mg : Str → Option Value) (C fI : Addr) : Prop where
  gC : mg "BadNumber" = some (.ref C)
  cls : ∃ nm q N bs NE sn sub ab col dd k0 k1 k2 k3 k5, K.lookup C = some (excClassObj nm q C N bs (tailN NE) true sn sub ab col dd k0 k1 k2 k3 k5 "Exception.__new__")
  sa : findIn K (.ref C) "__setattr__" = some (some (.builtin "object.__setattr__"))
  ga : findIn K (.ref C) "__getattribute__" = some (some (.builtin "BaseException.__getattribute__"))
  gg : findIn K (.ref C) "__getattr__" = some none
  noN : findIn K (.ref C) "name" = some none
  iC : findIn K (.ref C) "__init__" = some (some (.ref fI))
  tC : typeIn K (.ref fI) = some (.type "function")
  kC : keepIn K (.ref C) = true
  exC : subIn K (.ref C) (.type "BaseException") = some true
  tyC : typeIn K (.ref C) = some (.type "type")
  hdC : hasDictIn K C = true
  te : exmOne K (.ref C) (.ref C) = some true
  fn : ∃ (oc : Value) (od : Option Addr) (kV doc pm : Value) (an : Option Addr) (cdv ct : Value) (osl : Array (Option Value)) (p1 p2 q1 q2 q3 q4 : Pos),
    K.lookup fI = some ⟨oc, od, .func (fnOf "__init__" "BadNumber.__init__" (iA p1 p2) (iB q1 q2 q3 q4) iS .none kV doc pm an cdv ct), osl⟩ ∧ codeIn K cdv "BadNumber.__init__" = true
/-- what __init__ leaves of a fresh exception at x -/
structure InitEnd (h h' : Heap) (x C dx t1 : Addr) (v : Value) : Prop where
  keep : ∀ b o, b ≠ x → h.get? b = some o → h'.get? b = some o
  obj : h'.get? x = some { cls := .ref C, dict := some dx, data := .fields #[.ref t1, .none, .none, .none, .bool false, .none] }
  dbig : h.objs.size ≤ dx
  dne : dx ≠ x
  ns : h'.Ns1 dx (fun y => if y = "name" then some v else none)
/-- a made Low -/
structure OwnMade (h h' : Heap) (e C d : Addr) (v : Value) : Prop where
  keep : ∀ b o, h.get? b = some o → h'.get? b = some o
  new : h.objs.size ≤ e
  obj : ∃ oe vs, h'.get? e = some oe ∧ oe.cls = .ref C ∧ oe.dict = some d ∧ oe.data = .fields vs ∧ vs[1]? = some .none
  dbig : h.objs.size ≤ d
  dne : d ≠ e
  ns : h'.Ns1 d (fun y => if y = "name" then some v else none)
section
variable {prog : Program} {w : World} {A : Around} {E : Value → Shared → Prop} {R : Result → Shared → Prop} {s : Shared} {K : Frag} {mg : Str → Option Value} {C fI : Addr}
theorem low_init (T : LowTxt K mg C fI) {x t0 : Addr} {v : Value} (X : K.In s.heap) (hlim : s.heap.NoLimit) (hx : s.heap.get? x = some (excO C t0)) (hnx : K.lookup x = none) (hroom : A.depth < recursionLimit)
    (hq : ∀ h' tk dx, InitEnd s.heap h' x C dx t0 v → R (.ok (.ret .none)) { s with heap := h', toks := tk }) :
    codeAny (model prog w) A (.call (.ref fI) ⟨[.ref x, v], []⟩) R s := by
  obtain ⟨oc, od, kV, doc, pm, an, cdv, ct, osl, p1, p2, q1, q2, q3, q4, ho, hcd⟩ := T.fn
  obtain ⟨nm, q, N, bs, NE, sn, sub, ab, col, dd, k0, k1, k2, k3, k5, hC⟩ := T.cls
  have hcl : clsIn K C = some { name := nm, bases := bs, mro := .ref C :: tailN NE, ns := N, qualname := q, hasDict := true, slotNames := sn, subclasses := sub, abstract := ab, collection := col, hasDel := false } := by unfold clsIn; rw [hC] <;> rfl
  refine Att.call_fn (binds := [("self", .ref x), ("name", v)]) X hlim ho hcd hroom (BindsTo.of_eq (by first | rfl | with_unfolding_all rfl)) (by first | rfl | decide | with_unfolding_all rfl) (fun s₁ IC => ?_) rfl rfl rfl
  obtain ⟨h₁, tk₁, rfl⟩ := IC.toInCall.same
  have k : ∀ b o, s.heap.get? b = some o → h₁.get? b = some o := IC.toInCall.keep
  have hn := IC.toInCall.ns
  have hxL : s.heap.objs.size ≠ x := Nat.ne_of_gt (Heap.lt_size hx)
  have X₁ : K.In h₁ := X.keeps k
  have hx₁ := k _ _ hx
  -- self.by = by
  show wpAny _ _ (execs _ _) _ _ _
  refine wpAny_execs_cons (plainObj_wpAny_Assign_Attribute ?_)
  refine ldC (v := v) hn (by first | rfl | with_unfolding_all rfl | kernel_rfl) (ldC (v := .ref x) hn (by first | rfl | with_unfolding_all rfl | kernel_rfl) ?_)
  refine set_plain X₁ (ox := excO C t0) (od := none) ⟨hx₁, rfl, rfl, trivial⟩ T.sa ?_
  refine osa_ex (N := NE) X₁ hx₁ hcl rfl rfl T.noN (fun h₃ tk₃ dx k₃ dn dne hx₃ hn₃ => ?_)
  show wpAny _ _ (execs _ _) _ _ _
  have z : s.heap.objs.size < h₁.objs.size := hn.lt
  exact wpAny_execs_nil (hq h₃ tk₃ dx ⟨fun b o hb e => k₃ b o hb (k b o e), hx₃, Nat.le_of_lt (Nat.lt_of_lt_of_le z dn), dne, hn₃⟩)
theorem low_made (T : LowTxt K mg C fI) {v : Value} (X : K.In s.heap) (hlim : s.heap.NoLimit) (hroom : A.depth + 1 < recursionLimit)
    (hq : ∀ h' tk e d, OwnMade s.heap h' e C d v → R (.ok (.ret (.ref e))) { s with heap := h', toks := tk }) :
    codeAny (model prog w) A (.call (.ref C) ⟨[v], []⟩) R s := by
  obtain ⟨nm, q, N, bs, NE, sn, sub, ab, col, dd, k0, k1, k2, k3, k5, hC⟩ := T.cls
  obtain ⟨hp, g, dr, tk, os⟩ := s
  have k : ∀ b o, hp.get? b = some o → ((hp.push (kdv_tup [v])).push (excO C hp.objs.size)).get? b = some o := fun b o e => Heap.get?_push_of_some _ (Heap.get?_push_of_some _ e)
  have hget : ((hp.push (kdv_tup [v])).push (excO C hp.objs.size)).get? (hp.objs.size + 1) = some (excO C hp.objs.size) := by heap_get
  have hnx : K.lookup (hp.objs.size + 1) = none := by
    cases e : K.lookup (hp.objs.size + 1) with
    | none => rfl
    | some o =>
      have z : hp.get? (hp.objs.size + 1) = some o := X _ _ e
      exact absurd (Nat.lt_of_succ_lt (Heap.lt_size z)) (Nat.lt_irrefl _)
  refine call_own F.excBase_Exception (fun X => tailN_has NE X) (X _ _ hC) (looks_findIn X T.iC) (fun self => bind_fn X self T.tC) (one_size v) ?_
  refine low_init (s := ⟨(hp.push (kdv_tup [v])).push (excO C hp.objs.size), g, dr, tk, os⟩) T (X.keeps k) (hlim.keeps k) hget hnx ?_ fun h' tk' dx ⟨k', hx, dn, dne, hns⟩ => ?_
  · show A.depth + 1 < recursionLimit
    exact hroom
  · have old : ∀ b o, hp.get? b = some o → h'.get? b = some o := fun b o e => k' b o (Nat.ne_of_lt (Nat.lt_succ_of_lt (Heap.lt_size e))) (k b o e)
    have z : hp.objs.size + 1 + 1 ≤ dx := by
      first
        | (simpa only [Heap.size_push] using dn)
        | exact dn
        | (have q := dn; rw [Heap.size_push, Heap.size_push] at q; exact q)
    exact ⟨rfl, hq h' tk' (hp.objs.size + 1) dx ⟨old, Nat.le_succ _, ⟨_, _, hx, rfl, rfl, rfl, rfl⟩, Nat.le_trans (Nat.le_trans (Nat.le_succ _) (Nat.le_succ _)) z, dne, hns⟩⟩
end
end BadNumberX
end LowX
end PySem
namespace L2
open PySem PySem.Spec PyProof.Rows
theorem relO_low_BadNumber {v : V} {v' : Value} (r : RelV v v') (f : Str) : RelO (List.lookup f [(("name" : Str), v)]) (if f = "name" then some v' else none) := by
  by_cases hw : f = "name"
  · subst hw
    rw [if_pos rfl]
    have q : List.lookup ("name" : Str) [(("name" : Str), v)] = some v := by simp [List.lookup]
    rw [q]
    exact r
  · rw [if_neg hw]
    have qw : (f == ("name" : Str)) = false := by simpa using hw
    have q2 : List.lookup f [(("name" : Str), v)] = none := by simp [List.lookup, qw]
    rw [q2]
    trivial
section
variable {X : Cx} {C fI : Addr}
/-- Low(e) -/
def tMkLow_BadNumber (C : Addr) (ta : TA) : St → Hp → XK → Prop := fun σ H Q => ta σ H fun vs H1 => ∃ v, vs = [v] ∧ ∀ d, H1 d = none → Q (.ref C) (some d) (upd H1 d (.xd [(("name" : Str), v)]))
theorem pmk_low_BadNumber {a : Expr} {ta : TA} {p pos : Pos} {k : Nat} (T : PySem.LowX.BadNumberX.LowTxt X.K X.mg C fI) (hr : Room k X.A) (ha : PA X [a] ta) (hg : Gl X "BadNumber" := by rfl)
    (he : starEach (a :: []) X.env = (false, eval a X.env) :: starEach [] X.env := by rfl) (hpl : (backTo pos (starEach [] X.env)).any (·.1) = false := by rfl) :
    PMk X (.Call (.Name "BadNumber" p) [a] [] pos) (tMkLow_BadNumber C ta) := by
  intro pins s σ H Q I h
  refine wpAny_Call_Name_kw (ld_glob I hg T.gC ?_)
  refine PySem.W.callWith_K (h₀ := X.base) I.ok.mod.kin T.kC (thn (ha.run pos pins s σ H _ I h) fun us s1 hh => ?_) he hpl
  obtain ⟨vs, H1, I1, r1, v, ev, q1⟩ := hh
  subst ev
  refine ⟨I1.kIn, ?_⟩
  cases r1 with
  | cons rv rn =>
    rename_i v' us'
    cases rn
    show wpAny _ _ (call (.ref C) [v']) _ _ _
    have hlim := I1.nolimit
    obtain ⟨hp, g, dr, tk, os⟩ := s1
    refine wpAny_call (PySem.LowX.BadNumberX.low_made T I1.kIn hlim (by have := hr.dp; omega) fun h' tk' e d M => ?_)
    show MkP X pins σ Q (.ref e) ⟨h', g, dr, tk', os⟩
    obtain ⟨oe, fv, hoe, hc, hd, hdat, h1⟩ := M.obj
    have hns := M.ns
    obtain ⟨G', g1, g2⟩ := restrict h' fun b => decide (b ≠ e)
    have gk : ∀ b, b ≠ e → G'.get? b = h'.get? b := fun b hb => g1 b (decide_eq_true hb)
    have ge : G'.get? e = none := g2 e (by simp)
    have old : ∀ b o, hp.get? b = some o → G'.get? b = some o := fun b o q => (gk b (Nat.ne_of_lt (Nat.lt_of_lt_of_le (Heap.lt_size q) M.new))).trans (M.keep b o q)
    have ob : ObjOk X.prog X.w (upd H1 d (.xd [(("name" : Str), v)])) G' d (.xd [(("name" : Str), v)]) :=
      ⟨_, hns.at (fun o q => (gk d M.dne).trans q), fun f => relO_low_BadNumber rv f⟩
    have J : Inv X pins σ (upd H1 d (.xd [(("name" : Str), v)])) ⟨G', g, dr, tk', os⟩ := I1.laid (t' := tk') old M.dbig ob
    refine ⟨e, oe, fv, ⟨G', g, dr, tk', os⟩, _, .ref C, some d, rfl, J, fun b o q => ?_, ge, hoe, ⟨hc, hd⟩, hdat, h1, ?_, rfl, I1.bare, raises_own T.exC T.tyC, q1 d (I1.hok.fresh M.dbig)⟩
    · by_cases hb : b = e
      · have q' : G'.get? b = some o := q
        rw [hb, ge] at q'; cases q'
      · exact (gk b hb).symm.trans q
    · rw [upd_ne (Ne.symm M.dne)]
      exact I1.hok.fresh M.new
/-- raise Low(e) -/
def tRaiseLow_BadNumber (C : Addr) (W : WX) (ta : TA) : TS := fun _ σ H => tMkLow_BadNumber C ta σ H fun cls d H' => W cls d σ H'
theorem ps_raiseLow_BadNumber {a : Expr} {ta : TA} {W : WX} {p pos pos2 : Pos} {k : Nat} (hc : X.calm = true) (T : PySem.LowX.BadNumberX.LowTxt X.K X.mg C fI) (hr : Room k X.A) (tk : Takes X W) (ha : PA X [a] ta) (hg : Gl X "BadNumber" := by rfl)
    (he : starEach (a :: []) X.env = (false, eval a X.env) :: starEach [] X.env := by rfl) (hpl : (backTo pos (starEach [] X.env)).any (·.1) = false := by rfl) :
    PS X (.Raise (some (.Call (.Name "BadNumber" p) [a] [] pos)) none pos2) (tRaiseLow_BadNumber C W ta) := ps_raise hc tk (pmk_low_BadNumber T hr ha hg he hpl)
/-- low.by, low the exception that the suite holds (at a; its class cls, its dict d) -/
def tByLow_BadNumber (C : Addr) (a : Addr) (cls : Value) (d : Option Addr) (te : TE) : TE := fun σ H Q => te σ H fun x H1 => x = .ref a ∧ cls = .ref C ∧ ∃ (dd : Addr) (v : V), d = some dd ∧ H1 dd = some (.xd [(("name" : Str), v)]) ∧ Q v H1
theorem pe_byLow_BadNumber {a : Addr} {oe : Obj} {cls : Value} {d : Option Addr} {pn : List (Addr × Obj)} {e : Expr} {te : TE} {pos : Pos} (T : PySem.LowX.BadNumberX.LowTxt X.K X.mg C fI) (hz : Zc cls d oe) (hf : ∃ vs, oe.data = .fields vs) (he : PE (X.suite a ((a, oe) :: pn)) e te)
    (hb : attributeBase e "name" X.env (eval e X.env) = eval e X.env := by rfl) :
    PE (X.suite a ((a, oe) :: pn)) (.Attribute e "name" pos) (tByLow_BadNumber C a cls d te) := by
  refine ⟨fun pins s σ H Q I h => ?_⟩
  refine attr_of hb (thn (he.run pins s σ H _ I h) fun u s1 hh => ?_)
  obtain ⟨x, H1, I1, rx, ex, ec, dd, v, ed, ea, q⟩ := hh
  subst ex
  obtain rfl : u = Value.ref a := rx
  subst ec
  subst ed
  obtain ⟨ha, _⟩ := I1.pin (a, oe) (List.mem_append_left _ List.mem_cons_self)
  obtain ⟨vs, hd⟩ := hf
  have hx : ObjOk X.prog X.w H1 s1.heap dd (.xd [(("name" : Str), v)]) := I1.hok dd _ ea
  obtain ⟨mA, hns, hr⟩ := hx
  obtain ⟨od, ho, hl⟩ := lookIn_ns hns
  have l : List.lookup ("name" : Str) [(("name" : Str), v)] = some v := by simp [List.lookup]
  obtain ⟨u, hu, ru⟩ := RelO.some_of (v := v) (o := mA "name") (by rw [← l]; exact hr "name")
  have J : PySem.W.InstAt s1.heap a oe C (some od) := ⟨ha, hz.1, by unfold PySem.W.notCls; rw [hd] <;> rfl, by rw [hz.2]; exact ho⟩
  exact HandSPX.exc_get I1.kIn J T.ga T.gg T.exC (PySem.W.findObj_own T.hdC T.noN rfl (by rw [hl, hu])) (handed_of ru) ⟨v, H1, I1.tok _, ru, q⟩
end
end L2
/-! K37N: the refusals -/
namespace K37
open PySem PyProof.Rows L2
open Evl (Ex)
/-- the exceptions that the law catches -/
structure Te (K : PySem.W.Frag) (mg : PySem.Str → Option Value) : Prop where
  o : PySem.LowX.BadOrderX.LowTxt K mg (He.ga K "BadOrder") (He.ma K (He.ga K "BadOrder") "__init__")
  n : PySem.LowX.BadNumberX.LowTxt K mg (He.ga K "BadNumber") (He.ma K (He.ga K "BadNumber") "__init__")
section
variable {X : Cx} {x : PySem.Str} {k : Nat} {ps : List PySem.Str} {sp : Sp} {p pos : Pos} {e : Expr} {es : List Expr} {t : TA} {W : WX}
theorem pe_callSO (F : OkF X.prog X.w X.K X.mg X.base (L2.CX X.prog X.w) x k ps sp) (hr : Room k X.A) (tk : Takes X W) (ha : PA X (e :: es) t) (hg : Gl X x := by rfl)
    (hdb : (x == ("__debug__" : PySem.Str)) = false := by decide) (he : starEach (e :: es) X.env = (false, eval e X.env) :: starEach es X.env := by rfl) (hpl : (backTo pos (starEach es X.env)).any (·.1) = false := by rfl) :
    PE X (.Call (.Name x p) (e :: es) [] pos) (tCallS sp (WE W) t) := by
  obtain ⟨fd, F1, F2⟩ := F.fn
  exact pe_callS F1 hr hg F.mg F.kp F2 (fun σ => passAt tk σ) ha hdb he hpl
end
/-- a promise that ends by an exception of the class at C whose field holds out -/
def PX {α : Type} (C : Addr) (fld : PySem.Str) (pre : α → Prop) (args : α → List Dt) (out : α → Dt) : Sp := fun vs H _ E =>
  ∃ (x : α) (B : Hp), pre x ∧ Ex B H ∧ HasL (args x) vs B ∧ ∀ B2 H2 dd v, Gr none B H B2 H2 → B2 dd = none → H2 dd = some (.xd [(fld, v)]) → Has (out x) v B2 → E (.ref C) (some dd) H2
theorem px_len {α : Type} {C : Addr} {fld : PySem.Str} {pre : α → Prop} {args : α → List Dt} {out : α → Dt} {n : Nat} (h : ∀ x, (args x).length = n) : ∀ vs H Q E, PX C fld pre args out vs H Q E → vs.length = n := fun vs H Q E ⟨x, B, _, _, l, _⟩ => by
  rw [l.length, h]
theorem px_open {α : Type} {C : Addr} {fld : PySem.Str} {pre : α → Prop} {args : α → List Dt} {out : α → Dt} {vs : List V} {H : Hp} {Q : VK} {E : XK} {N : List PySem.Str} (h : PX C fld pre args out vs H Q E) :
    ∃ (x : α) (B : Hp), pre x ∧ Ex B H ∧ Sta none B H B ((args x).map Sl.dat ++ List.replicate (N.length - (args x).length) Sl.any) (L2.start N vs) B H ∧ ∀ B2 H2 dd v, Gr none B H B2 H2 → B2 dd = none → H2 dd = some (.xd [(fld, v)]) → Has (out x) v B2 → E (.ref C) (some dd) H2 := by
  obtain ⟨x, B, px, e, hl, k⟩ := h
  refine ⟨x, B, px, e, ?_, k⟩
  unfold L2.start
  rw [hl.length]
  exact Sta.start e (rl_dats e (fun _ z => by cases z) hl _) fun i ds => no_own i ds
section
variable {B0 H0 Bk B H : Hp} {ρ : List Sl} {σ : L2.St} {ta : TA} {tz : TS} {Dn : Ends} {P : Dt → Prop} {d : Dt} {C : Addr} {E : XK}
/-- raise C(e) -/
theorem s_raiseO (s : Sta none B0 H0 Bk ρ σ B H) (h : EA none ta ρ [d]) (k : ∀ B2 H2 dd v, Gr none B0 H0 B2 H2 → B2 dd = none → H2 dd = some (.xd [(("place" : PySem.Str), v)]) → Has d v B2 → E (.ref C) (some dd) H2) : tRaiseLow_BadOrder C (fun cls d _ H => E cls d H) ta Dn σ H :=
  h σ B H s.rl _ fun vs ds B1 H1 pd g hvs => by
    subst pd
    obtain ⟨v, r, rfl, hv, hr⟩ := hvs
    cases (show r = [] from hr)
    exact ⟨v, rfl, fun dd hd => k B1 _ dd v ((s.gr.trans g).trans (Gr.newO g.i hd)) (ex_none g.i hd) upd_same hv⟩
theorem s_raiseN (s : Sta none B0 H0 Bk ρ σ B H) (h : EA none ta ρ [d]) (k : ∀ B2 H2 dd v, Gr none B0 H0 B2 H2 → B2 dd = none → H2 dd = some (.xd [(("name" : PySem.Str), v)]) → Has d v B2 → E (.ref C) (some dd) H2) : tRaiseLow_BadNumber C (fun cls d _ H => E cls d H) ta Dn σ H :=
  h σ B H s.rl _ fun vs ds B1 H1 pd g hvs => by
    subst pd
    obtain ⟨v, r, rfl, hv, hr⟩ := hvs
    cases (show r = [] from hr)
    exact ⟨v, rfl, fun dd hd => k B1 _ dd v ((s.gr.trans g).trans (Gr.newO g.i hd)) (ex_none g.i hd) upd_same hv⟩
end
/-- why an order is refused, by which place -/
def SaidBad (n : Int) (d : Dt) (p : Int) : Prop := (isRow d = false ∧ noObj d = true ∧ p = -1) ∨ ∃ ds, IsSeq d ds ∧ (∀ e ∈ ds, noObj e = true) ∧ ds.length ≤ 1000 ∧ (((ds.length : Int) ≠ n ∧ p = -1) ∨ ((ds.length : Int) = n ∧ ∃ k : Nat, strange n [] 0 ds = some k ∧ p = (k : Int)))
section
variable {P : Program} {w : World} {K : PySem.W.Frag} {mg : PySem.Str → Option Value} {base : Heap}
theorem okX__said_order (T : Tx K mg) (Xe : Te K mg) : OkF P w K mg base (L2.CX P w) "_said_order" 4 ps__said_order
    (PX (He.ga K "BadOrder") "place" (fun p : Dt × Int × Int => SaidBad p.2.1 p.1 p.2.2) (fun p => [p.1, .int p.2.1]) (fun p => .int p.2.2)) := by
  refine Df.ok T.d__said_order sc__said_order (fun _ _ _ _ _ _ us hl => match us, hl with | [_, _], _ => rfl) (px_len fun _ => rfl) (fun cdv A outer s H vs Q E hr h => ?_)
  obtain ⟨⟨d, n, p⟩, B, hb, e, st, k⟩ := px_open (N := nm__said_order) h
  dsimp only at hb k st
  refine ⟨_, (pss_cons (ps_if (PW.pt (pw_or (pt_not (pt_val (pe_callO (ok_is_row T) (hr.mono (by decide)) (pa_cons (pv 0) pa_nil)))) (pw_or1 (pt_cmpR op_ne (pe_callB (call_len_k (K := K)) (by rfl) T.b_len boot_len (pa_cons (pv 0) pa_nil)) (pv 1) (nomark _))))) (pss_one (ps_raiseLow_BadOrder rfl Xe.o hr (takes_of rfl rfl rfl rfl) (by exact (pa_cons (pe_un un_neg pe_int) pa_nil)))) pss_nil)
      (pss_cons (ps_set (i := 2) sc__said_order.nd rfl (Or.inl rfl) (pe_callO (ok_first_stranger T) (hr.mono (by decide)) (pa_cons (pv 0) (pa_cons (pv 1) pa_nil))))
      (pss_cons (ps_if (pt_cmp (pc_notN (pv 2))) (pss_one (ps_raiseLow_BadOrder rfl Xe.o hr (takes_of rfl rfl rfl rfl) (by exact (pa_cons (pv 2) pa_nil)))) pss_nil)
      (pss_one (ps_ret (pe_callTy (call_tuple_k (K := K)) (by rfl) T.b_tuple boot_tuple (pa_cons (pv 0) pa_nil))))))), ?_⟩
  rcases hb with ⟨h1, h2, rfl⟩ | ⟨ds, hs, ho, hz, hb⟩
  · refine q_if st (b := true) (et_to (et_or (b := true) (et_not (et_B (ev_call d h2 (ea_one (ev_var (i := 0)))))) fun z => ?_) ?_) (fun _ B1 H1 st1 => s_raiseO st1 (ea_one (ev_neg ev_int)) k) (fun z => nomatch z)
    · rw [h1] at z
      cases z
    · rw [h1]
      rfl
  · have hrow : isRow d = true := by rcases hs with z | z <;> rw [z] <;> rfl
    rcases hb with ⟨hl, rfl⟩ | ⟨hl, k0, hk, rfl⟩
    · refine q_if st (b := true) (et_to (et_or (et_not (et_B (ev_call d hs.row (ea_one (ev_var (i := 0)))))) fun _ => et_test (ev_neI (ev_lenS (ev_var (i := 0)) hs) (ev_var (i := 1)))) ?_) (fun _ B1 H1 st1 => s_raiseO st1 (ea_one (ev_neg ev_int)) k) (fun z => nomatch z)
      rw [hrow, decide_eq_false hl]
      rfl
    · refine q_noF st (et_or (et_not (et_B (ev_call d hs.row (ea_one (ev_var (i := 0)))))) fun _ => et_test (ev_neI (ev_lenS (ev_var (i := 0)) hs) (ev_var (i := 1)))) ?_ fun B1 H1 st1 => ?_
      · rw [hrow, decide_eq_true hl]
        rfl
      refine q_setE st1 (d := .int (k0 : Int)) (EVP.imp (ev_call (d, ds, n) ⟨hs, ho, hz⟩ (ea_cons (ev_var (i := 0)) (ea_one (ev_var (i := 1))))) fun x e => e.trans (by rw [hk]; rfl)) fun σ2 B2 H2 st2 => ?_
      exact q_if st2 (b := true) (et_to (et_B (ev_notN (ev_var (i := 2)))) rfl) (fun _ B3 H3 st3 => s_raiseO st3 (ea_one (ev_var (i := 2))) k) (fun z => nomatch z)
end
section
variable {B0 H0 Bk B H : Hp} {ρ : List Sl} {σ : L2.St} {ta : TA} {tz : TS} {Dn : Ends} {C : Addr} {E : XK} {α : Type} {fld : PySem.Str} {pre : α → Prop} {args : α → List Dt} {out : α → Dt} {g : TG}
/-- a = f(..), f refuses -/
theorem q_callX (x : α) (px : pre x) (s : Sta none B0 H0 Bk ρ σ B H) (h : EA none ta ρ (args x)) (k : ∀ B2 H2 dd v, Gr none B0 H0 B2 H2 → B2 dd = none → H2 dd = some (.xd [(fld, v)]) → Has (out x) v B2 → E (.ref C) (some dd) H2) :
    tSeq (tAsg (tCallS (PX C fld pre args out) (WE fun cls d _ H => E cls d H) ta) g) tz Dn σ H :=
  h σ B H s.rl _ fun vs ds B1 H1 pd gg hvs => by
    subst pd
    exact ⟨x, B1, px, gg.i, hvs, fun B2 H2 dd v g2 z hd hv => k B2 H2 dd v ((s.gr.trans gg).trans g2) z hd hv⟩
/-- f(..) in a try, f refuses -/
theorem d_callX {W : WX} (x : α) (px : pre x) (s : Sta none B0 H0 Bk ρ σ B H) (h : EA none ta ρ (args x)) (k : ∀ B2 H2 dd v, Sta none B0 H0 Bk ρ σ B2 H2 → B2 dd = none → H2 dd = some (.xd [(fld, v)]) → Has (out x) v B2 → W (.ref C) (some dd) σ H2) :
    tDrop (tCallS (PX C fld pre args out) (WE W) ta) Dn σ H :=
  h σ B H s.rl _ fun vs ds B1 H1 pd gg hvs => by
    subst pd
    exact ⟨x, B1, px, gg.i, hvs, fun B2 H2 dd v g2 z hd hv => k B2 H2 dd v ((s.go gg).go g2) z hd hv⟩
end
section
variable {P : Program} {w : World} {K : PySem.W.Frag} {mg : PySem.Str → Option Value} {base : Heap}
theorem okX_fits_told (T : Tx K mg) (Xe : Te K mg) : OkF P w K mg base (L2.CX P w) "fits_told" 5 ps_fits_told
    (PX (He.ga K "BadOrder") "place" (fun p : Dt × Int × List Case × Int => SaidBad p.2.1 p.1 p.2.2.2) (fun p => [p.1, toldD K p.2.1 p.2.2.1]) (fun p => .int p.2.2.2)) := by
  refine Df.ok T.d_fits_told sc_fits_told (fun _ _ _ _ _ _ us hl => match us, hl with | [_, _], _ => rfl) (px_len fun _ => rfl) (fun cdv A outer s H vs Q E hr h => ?_)
  obtain ⟨⟨d, n, cs, p⟩, B, hb, e, st, k⟩ := px_open (N := nm_fits_told) h
  dsimp only at hb k st
  refine ⟨_, pss_cons (ps_set (i := 2) sc_fits_told.nd rfl (Or.inl rfl) (pe_callSO (okX__said_order T Xe) (hr.mono (by decide)) (takes_of rfl rfl rfl rfl) (by exact (pa_cons (pv 0) (pa_cons (pe_fld_k (K := K) (pv 1)) pa_nil))))) (PSs.nox (pss_cons (ps_for PassesOwn.never rfl (pi_seq_k (K := K) (pe_fld_k (K := K) (pv 1))) (pg_tup_k (K := K) (n := 2) rfl (pgs_cons (pg_name (i := 3) sc_fits_told.nd rfl (Or.inr rfl)) (pgs_cons (pg_name (i := 4) sc_fits_told.nd rfl (Or.inl rfl)) pgs_nil))) (pss_cons (ps_setLc (i := 5) (own := [("x", 6)]) rfl sc_fits_told.nd rfl rfl (sw_true rfl rfl rfl (by decide +kernel)) (pi_seq_k (K := K) (pv 2)) (blkOk_by (N := nm_fits_told) (sc := (defScope st_fits_told)) (by decide +kernel)) (fun _ _ _ _ _ => (pg_name (i := 6) sc_fits_told.nd rfl (Or.inl rfl))) (fun _ _ _ _ _ => (pts_one (pt_cmpR (op_in_k (K := K)) (pv 6) (pv 3) (by rfl)))) (fun _ _ _ _ _ => (pv 6)))
      (pss_one (ps_if (pt_cmpR (op_notIn_k (K := K)) (pe_ix (ix_list_k (K := K)) (pv 5) pe_int (fun _ _ => rfl)) (pv 4) (by rfl)) (pss_one (ps_ret pe_bl)) pss_nil))))
      (pss_one (ps_ret pe_bl)))), ?_⟩
  exact q_callX (d, n, p) hb st (ea_cons (ev_var (i := 0)) (ea_one (ev_fldW (ev_var (i := 1)) T.c_told T.n_told_w))) k
/-- a place that narrowed_told refuses -/
def PlaceBad (len : Nat) (d : Dt) : Prop := (isI d = false ∧ noObj d = true) ∨ ∃ i, d = .int i ∧ (i < 0 ∨ (len : Int) ≤ i)
def WorldBad (c : Case) (d : Dt) : Prop := (isI d = false ∧ noObj d = true) ∨ ∃ x, d = .int x ∧ x ∉ c.2
def NarBad (cs : List Case) (dp dw : Dt) (nm : PySem.Str) : Prop := (PlaceBad cs.length dp ∧ nm = "place") ∨ ∃ (i : Nat) (c : Case), dp = .int (i : Int) ∧ cs[i]? = some c ∧ WorldBad c dw ∧ nm = "world"
theorem okX_narrowed_told (T : Tx K mg) (Xe : Te K mg) : OkF P w K mg base (L2.CX P w) "narrowed_told" 8 ps_narrowed_told
    (PX (He.ga K "BadNumber") "name" (fun p : Int × List Case × Dt × Dt × PySem.Str => NarBad p.2.1 p.2.2.1 p.2.2.2.1 p.2.2.2.2) (fun p => [toldD K p.1 p.2.1, p.2.2.1, p.2.2.2.1]) (fun p => .str p.2.2.2.2)) := by
  refine Df.ok T.d_narrowed_told sc_narrowed_told (fun _ _ _ _ _ _ us hl => match us, hl with | [_, _, _], _ => rfl) (px_len fun _ => rfl) (fun cdv A outer s H vs Q E hr h => ?_)
  obtain ⟨⟨n, cs, dp, dw, nm⟩, B, hb, e, st, k⟩ := px_open (N := nm_narrowed_told) h
  dsimp only at hb k st
  refine ⟨_, (pss_cons (ps_if (PW.pt (pw_or (pt_not (pt_val (pe_callO (ok_whole_number T) (hr.mono (by decide)) (pa_cons (pv 1) pa_nil)))) (pw_or (pt_cmpR op_lt (pv 1) pe_int (nomark _)) (pw_or1 (pt_cmpR op_ge (pv 1) (pe_callB (call_len_k (K := K)) (by rfl) T.b_len boot_len (pa_cons (pe_fld_k (K := K) (pv 0)) pa_nil)) (nomark _)))))) (pss_one (ps_raiseLow_BadNumber rfl Xe.n hr (takes_of rfl rfl rfl rfl) (by exact (pa_cons pe_str pa_nil)))) pss_nil)
      (pss_cons (ps_asg (pe_ix (ix_tup_k (K := K)) (pe_fld_k (K := K) (pv 0)) (pv 1) (fun _ _ => rfl)) (pg_tup_k (K := K) (n := 2) rfl (pgs_cons (pg_name (i := 3) sc_narrowed_told.nd rfl (Or.inl rfl)) (pgs_cons (pg_name (i := 4) sc_narrowed_told.nd rfl (Or.inl rfl)) pgs_nil))))
      (pss_cons (ps_if (PW.pt (pw_or (pt_not (pt_val (pe_callO (ok_whole_number T) (hr.mono (by decide)) (pa_cons (pv 2) pa_nil)))) (pw_or1 (pt_cmpR (op_notIn_k (K := K)) (pv 2) (pv 4) (by rfl))))) (pss_one (ps_raiseLow_BadNumber rfl Xe.n hr (takes_of rfl rfl rfl rfl) (by exact (pa_cons pe_str pa_nil)))) pss_nil)
      (pss_one (ps_ret (pe_makeO_k (K := K) (ok_Told___init__ T) (hr.mono (by decide)) (pa_cons (pe_fld_k (K := K) (pv 0)) (pa_cons (pe_op (op_catT_k (K := K)) (pe_op (op_catT_k (K := K)) (pe_slice (sl_tup_k (K := K)) (pe_fld_k (K := K) (pv 0)) po_none (po_some (pv 1))) (pe_tup (pa_cons (pe_tup (pa_cons (pv 3) (pa_cons (pe_tup (pa_cons (pv 2) pa_nil)) pa_nil))) pa_nil))) (pe_slice (sl_tup_k (K := K)) (pe_fld_k (K := K) (pv 0)) (po_some (pe_op op_add (pv 1) pe_int)) po_none)) pa_nil)))))))), ?_⟩
  rcases hb with ⟨hb, rfl⟩ | ⟨i, c, rfl, hc, hb, rfl⟩
  · rcases hb with ⟨h1, h2⟩ | ⟨i, rfl, hi⟩
    · refine q_if st (b := true) (et_to (et_or (b := true) (et_not (et_B (ev_call dp h2 (ea_one (ev_var (i := 1)))))) fun z => ?_) ?_) (fun _ B1 H1 st1 => s_raiseN st1 (ea_one ev_str) k) (fun z => nomatch z)
      · rw [h1] at z
        cases z
      · rw [h1]
        rfl
    · refine q_if st (b := true) (et_to (et_or (et_not (et_B (ev_call (.int i) rfl (ea_one (ev_var (i := 1)))))) fun _ => et_or (et_test (ev_lt (ev_var (i := 1)) ev_int)) fun _ => et_test (ev_ge (ev_var (i := 1)) (ev_lenS (ev_fldC (ev_var (i := 0)) T.c_told T.n_told_c) (.inr rfl)))) ?_) (fun _ B1 H1 st1 => s_raiseN st1 (ea_one ev_str) k) (fun z => nomatch z)
      rw [List.length_map]
      rcases hi with hi | hi
      · rw [decide_eq_true hi]
        rfl
      · rw [decide_eq_true hi, Bool.or_true]
        rfl
  · have hi : i < cs.length := (List.getElem?_eq_some_iff.mp hc).1
    refine q_noF st (et_or (et_not (et_B (ev_call (.int (i : Int)) rfl (ea_one (ev_var (i := 1)))))) fun _ => et_or (et_test (ev_lt (ev_var (i := 1)) ev_int)) fun _ => et_test (ev_ge (ev_var (i := 1)) (ev_lenS (ev_fldC (ev_var (i := 0)) T.c_told T.n_told_c) (.inr rfl)))) ?_ fun B1 H1 st1 => ?_
    · rw [decide_eq_false (by omega), decide_eq_false (by rw [List.length_map]; omega)]
      rfl
    refine q_asgG st1 (ev_ixT (i := i) (d := caseD c) (ev_fldC (ev_var (i := 0)) T.c_told T.n_told_c) (ev_var (i := 1)) (by rw [List.getElem?_map, hc]; rfl)) eg_two fun σ2 B2 H2 st2 => ?_
    rcases hb with ⟨h1, h2⟩ | ⟨x, rfl, hx⟩
    · refine q_if st2 (b := true) (et_to (et_or (b := true) (et_not (et_B (ev_call dw h2 (ea_one (ev_var (i := 2)))))) fun z => ?_) ?_) (fun _ B1 H1 st1 => s_raiseN st1 (ea_one ev_str) k) (fun z => nomatch z)
      · rw [h1] at z
        cases z
      · rw [h1]
        rfl
    · refine q_if st2 (b := true) (et_to (et_or (et_not (et_B (ev_call (.int x) rfl (ea_one (ev_var (i := 2)))))) fun _ => et_test (ev_notIn (ns := c.2) (ev_var (i := 2)) (ev_var (i := 4)))) ?_) (fun _ B1 H1 st1 => s_raiseN st1 (ea_one ev_str) k) (fun z => nomatch z)
      rw [decide_eq_false hx]
      rfl
theorem set_any {l : List Sl} {i : Nat} (h : l[i]? = some .any) : l.set i .any = l := by
  apply List.ext_getElem?
  intro j
  by_cases q : i = j
  · subst q
    have hl := (List.getElem?_eq_some_iff.mp h).1
    rw [List.getElem?_set_self hl, h]
  · rw [List.getElem?_set_ne q]
abbrev nm__law_order_refused : List PySem.Str := [("_law_order" : PySem.Str), ("_law_told" : PySem.Str), ("_law_found" : PySem.Str), ("error" : PySem.Str)]
abbrev ps__law_order_refused : List PySem.Str := [("_law_order" : PySem.Str), ("_law_told" : PySem.Str)]
theorem sc__law_order_refused : FnScope nm__law_order_refused ps__law_order_refused (defScope st__law_order_refused) := ⟨rfl, rfl, rfl, by decide +kernel, rfl, by decide +kernel, by decide +kernel⟩
/- slots: 0:_law_order 1:_law_told 2:_law_found 3:error -/
theorem ok__law_order_refused (T : Tx K mg) (Xe : Te K mg) : OkF P w K mg base CX0 "_law_order_refused" 6 ps__law_order_refused
    (PF (fun p : Dt × Int × List Case × Int => SaidBad p.2.1 p.1 p.2.2.2) (fun p => [p.1, toldD K p.2.1 p.2.2.1]) (fun p r => r = .tup [.str "order", .int p.2.2.2])) := by
  refine Df.ok T.d__law_order_refused sc__law_order_refused (fun _ _ _ _ _ _ us hl => match us, hl with | [_, _], _ => rfl) (pf_len fun _ => rfl) (fun cdv A outer s H vs Q E hr h => ?_)
  obtain ⟨⟨d, n, cs, p⟩, B, hb, e, st, k⟩ := pf_open (N := nm__law_order_refused) h
  dsimp only at hb k st
  refine ⟨_, pss_cons (ps_set (i := 2) sc__law_order_refused.nd rfl (Or.inl rfl) (pe_tup (pa_cons pe_str (pa_cons pe_int pa_nil))))
    (pss_cons (ps_try_as (i := 3) (tb := fun W => tDrop (tCallS (PX (He.ga K "BadOrder") "place" (fun p : Dt × Int × List Case × Int => SaidBad p.2.1 p.1 p.2.2.2) (fun p => [p.1, toldD K p.2.1 p.2.2.1]) (fun p => .int p.2.2.2)) (WE W) (tCons (tVar 0) (tCons (tVar 1) tNil))))
      (ts := fun a cls d => tAsg (tTup (tCons (tC (.str "order")) (tCons (tByLow_BadOrder (He.ga K "BadOrder") a cls d (tVar 3)) tNil))) (gName 2)) (Wout := fun _ _ _ _ => False) rfl rfl sc__law_order_refused.nd rfl rfl ⟨rfl, by decide, Or.inl Xe.o.gC⟩ takes0
      (fun W pn xe tk _ => pss_one (ps_expr (pe_callSO (okX_fits_told T Xe) (hr.mono (by decide)) tk (by exact (pa_cons (pv 0) (pa_cons (pv 1) pa_nil))))))
      (fun a oe cls d pn hz hf => pss_one (ps_set (i := 2) sc__law_order_refused.nd rfl (Or.inl rfl) (pe_tup (pa_cons pe_str (pa_cons (pe_byLow_BadOrder Xe.o hz hf (pv 3)) pa_nil))))))
    (pss_one (ps_ret (pv 2)))), ?_⟩
  refine q_setE st (ev_tup (ea_cons ev_str (ea_one ev_int))) fun σ1 B1 H1 st1 => ?_
  refine d_callX (d, n, cs, p) hb st1 (ea_cons (ev_var (i := 0)) (ea_one (ev_var (i := 1)))) fun B2 H2 dd v st2 zd hd hv => ?_
  refine ⟨true, Xe.o.te, fun _ a ha => ?_, fun q => Bool.noConfusion q⟩
  have lσ : σ1.length = 4 := st2.rl.len
  have hv' : v = .int p := hv
  subst hv'
  refine ⟨.ref a, List.getElem?_set_self (by omega), rfl, rfl, dd, .int p, rfl, hd, (by show 2 ≤ sizeLine; decide), fun pp hp => ?_⟩
  have g3 : Gr none B H (upd B2 pp (.tup [.str "order", .int p])) (upd H2 pp (.tup [.str "order", .int p])) := st2.gr.trans (Gr.new st2.rl.ex hp)
  refine ⟨.ref pp, ?_, k (.ref pp) (.tup [.str "order", .int p]) _ _ rfl g3 ⟨pp, _, rfl, upd_same, .cons rfl (.one rfl)⟩⟩
  rw [List.getElem?_set_ne (by decide)]
  exact List.getElem?_set_self (by rw [List.length_set]; omega)
abbrev nm__law_place_refused : List PySem.Str := [("_law_told" : PySem.Str), ("_law_place" : PySem.Str), ("_law_world" : PySem.Str), ("_law_found" : PySem.Str), ("error" : PySem.Str)]
abbrev ps__law_place_refused : List PySem.Str := [("_law_told" : PySem.Str), ("_law_place" : PySem.Str), ("_law_world" : PySem.Str)]
theorem sc__law_place_refused : FnScope nm__law_place_refused ps__law_place_refused (defScope st__law_place_refused) := ⟨rfl, rfl, rfl, by decide +kernel, rfl, by decide +kernel, by decide +kernel⟩
/- slots: 0:_law_told 1:_law_place 2:_law_world 3:_law_found 4:error -/
theorem ok__law_place_refused (T : Tx K mg) (Xe : Te K mg) : OkF P w K mg base CX0 "_law_place_refused" 9 ps__law_place_refused
    (PF (fun p : Int × List Case × Dt × Dt × PySem.Str => NarBad p.2.1 p.2.2.1 p.2.2.2.1 p.2.2.2.2) (fun p => [toldD K p.1 p.2.1, p.2.2.1, p.2.2.2.1]) (fun p r => r = .str p.2.2.2.2)) := by
  refine Df.ok T.d__law_place_refused sc__law_place_refused (fun _ _ _ _ _ _ us hl => match us, hl with | [_, _, _], _ => rfl) (pf_len fun _ => rfl) (fun cdv A outer s H vs Q E hr h => ?_)
  obtain ⟨⟨n, cs, dp, dw, nm⟩, B, hb, e, st, k⟩ := pf_open (N := nm__law_place_refused) h
  dsimp only at hb k st
  refine ⟨_, pss_cons (ps_set (i := 3) sc__law_place_refused.nd rfl (Or.inl rfl) pe_str)
    (pss_cons (ps_try_as (i := 4) (tb := fun W => tDrop (tCallS (PX (He.ga K "BadNumber") "name" (fun p : Int × List Case × Dt × Dt × PySem.Str => NarBad p.2.1 p.2.2.1 p.2.2.2.1 p.2.2.2.2) (fun p => [toldD K p.1 p.2.1, p.2.2.1, p.2.2.2.1]) (fun p => .str p.2.2.2.2)) (WE W) (tCons (tVar 0) (tCons (tVar 1) (tCons (tVar 2) tNil)))))
      (ts := fun a cls d => tAsg (tByLow_BadNumber (He.ga K "BadNumber") a cls d (tVar 4)) (gName 3)) (Wout := fun _ _ _ _ => False) rfl rfl sc__law_place_refused.nd rfl rfl ⟨rfl, by decide, Or.inl Xe.n.gC⟩ takes0
      (fun W pn xe tk _ => pss_one (ps_expr (pe_callSO (okX_narrowed_told T Xe) (hr.mono (by decide)) tk (by exact (pa_cons (pv 0) (pa_cons (pv 1) (pa_cons (pv 2) pa_nil)))))))
      (fun a oe cls d pn hz hf => pss_one (ps_set (i := 3) sc__law_place_refused.nd rfl (Or.inl rfl) (pe_byLow_BadNumber Xe.n hz hf (pv 4)))))
    (pss_one (ps_ret (pv 3)))), ?_⟩
  refine q_setE st ev_str fun σ1 B1 H1 st1 => ?_
  refine d_callX (n, cs, dp, dw, nm) hb st1 (ea_cons (ev_var (i := 0)) (ea_cons (ev_var (i := 1)) (ea_one (ev_var (i := 2))))) fun B2 H2 dd v st2 zd hd hv => ?_
  refine ⟨true, Xe.n.te, fun _ a ha => ?_, fun q => Bool.noConfusion q⟩
  have lσ : σ1.length = 5 := st2.rl.len
  have hv' : v = .str nm := hv
  subst hv'
  refine ⟨.ref a, List.getElem?_set_self (by omega), rfl, rfl, dd, .str nm, rfl, hd, .str nm, ?_, k (.str nm) (.str nm) _ _ rfl st2.gr rfl⟩
  rw [List.getElem?_set_ne (by decide)]
  exact List.getElem?_set_self (by rw [List.length_set]; omega)
end
end K37
/-! K37O: Told.__eq__, the law's draws of the script -/
namespace K37
open PySem PyProof.Rows L2
open Evl (Ex)
/-- what isinstance and == look up of Told -/
structure Tq (K : PySem.W.Frag) : Prop where
  ha : PySem.W.findIn K (.ref (TC K)) "__class__" = some (some (.builtin "object.__class__"))
  hn : PySem.W.specialIn K (.builtin "object.__class__") "__get__" = some (some (.builtin "getset_descriptor.__get__"))
  ht : PySem.W.takesIn K (.builtin "object.__class__") = some true
  hm : PySem.W.mroIn K (TC K) (.type "object") = some true
  kit : PySem.W.kitOne K (.ref (TC K)) (.ref (TC K)) = some true
  eqs : PySem.W.findIn K (.ref (TC K)) "__eq__" = some (some (.ref (He.ma K (TC K) "__eq__")))
  fn : PySem.W.isFn K (.ref (He.ma K (TC K) "__eq__")) = true
/-- two tolds of the same cases -/
def SameT (K : PySem.W.Frag) : Addr → Addr → Hp → Prop := fun a b H => ∃ n cs, Has (toldD K n cs) (.ref a) H ∧ Has (toldD K n cs) (.ref b) H
section
variable {P : Program} {w : World} {K : PySem.W.Frag} {mg : PySem.Str → Option Value} {base : Heap}
abbrev nm_Told___eq__ : List PySem.Str := [("self" : PySem.Str), ("other" : PySem.Str)]
abbrev ps_Told___eq__ : List PySem.Str := [("self" : PySem.Str), ("other" : PySem.Str)]
theorem sc_Told___eq__ : FnScope nm_Told___eq__ ps_Told___eq__ (defScope st_Told___eq__) := ⟨rfl, rfl, rfl, by decide +kernel, rfl, by decide +kernel, by decide +kernel⟩
/- slots: 0:self 1:other -/
theorem ok_Told___eq__ (T : Tx K mg) (Tq : Tq K) : ∃ fd, FnOk P w K mg base CX0 1 (He.ma K (TC K) "__eq__") fd ps_Told___eq__ (spEq (SameT K)) ∧ Binds K fd ps_Told___eq__ [] := by
  refine Dm.ok T.d_told_eq sc_Told___eq__ (fun _ _ _ _ _ _ us hl => match us, hl with | [_, _], _ => rfl) (fun vs H Q E h => by obtain ⟨_, _, rfl, _⟩ := h; rfl) (fun cdv A outer s H vs Q E hr h => ?_)
  obtain ⟨a, b, rfl, ⟨n, cs, h1, h2⟩, k⟩ := h
  have st : Sta none H H H [.dat (toldD K n cs), .dat (toldD K n cs)] (L2.start nm_Told___eq__ [.ref a, .ref b]) H H :=
    Sta.start (Ex.refl H) (rl_dats (D := none) (Ex.refl H) (fun _ z => nomatch z) (ds := [toldD K n cs, toldD K n cs]) (.cons h1 (.one h2)) 0) fun i ds => no_own (ds := [toldD K n cs, toldD K n cs]) (n := 0) i ds
  refine ⟨_, PSs.nox (pss_one (ps_ret (pe_and (pe_callB (call_isi_k (K := K)) (by rfl) T.b_isinstance boot_isinstance (pa_cons (pv 1) (pa_cons (pe_glob (v := .ref (He.ga K "Told")) rfl T.g_told rfl) pa_nil))) (pe_and (pe_cmpR op_eq (pe_fld_k (K := K) (pv 0)) (pe_fld_k (K := K) (pv 1)) (nomark _)) (pe_one (pe_cmpR (op_eqD_k (K := K) (hu64_of hr)) (pe_fld_k (K := K) (pv 0)) (pe_fld_k (K := K) (pv 1)) (nomark _))))))), ?_⟩
  have isi : EV none (tCB (rIsi K) (tCons (tVar 1) (tCons (tC (.ref (TC K))) tNil))) [.dat (toldD K n cs), .dat (toldD K n cs)] (.bl true) := fun σ B1 H1 l Q q => by
    obtain ⟨v, e1, hv⟩ := l.dat (i := 1) (d := toldD K n cs) rfl
    obtain ⟨a', dx, fs, x, rfl, ha', _⟩ := hv
    exact ⟨.ref a', e1, .ref a', .ref (TC K), _, _, true, rfl, .own _, .base (.ins (l.ex _ _ ha') T.c_told Tq.ha Tq.hn Tq.ht Tq.hm), Tq.kit, q _ _ B1 H1 rfl (Gr.refl l.ex) rfl⟩
  refine s_ret (P := fun d => d = .bl true) st (EV.to (ev_andV isi fun _ => ev_andV (ev_eqI (ev_fldW (ev_var (i := 0)) T.c_told T.n_told_w) (ev_fldW (ev_var (i := 1)) T.c_told T.n_told_w)) fun _ => ev_eqD 3 (by decide) (ev_fldC (ev_var (i := 0)) T.c_told T.n_told_c) (ev_fldC (ev_var (i := 1)) T.c_told T.n_told_c) shD_cases shD_cases) ?_) fun v d B2 H2 p g hv => ?_
  · rw [eqv_self (d := casesT cs) (k := 3) shD_cases, decide_eq_true rfl]
    rfl
  · subst p
    rw [show v = .bl true from hv]
    exact k H2 fun c o e => g.i c o (g.b c o e)
/-- same == told -/
theorem ev_eqT {D : Option Addr} {ρ : List Sl} {ta tb : TE} {n : Int} {cs : List Case} (ha : EV D ta ρ (toldD K n cs)) (hb : EV D tb ρ (toldD K n cs)) : EV D (tOp (rEqG (DIns (TC K) (SameT K))) ta tb) ρ (.bl true) := ev_op ha hb fun v w' B H e hd hx hy Q q => by
  have mx := hx.mono e
  have my := hy.mono e
  obtain ⟨a, dx, fs, x, rfl, h1, _⟩ := id mx
  obtain ⟨b, dy, gs, y, rfl, h2, _⟩ := id my
  refine ⟨⟨a, b, dx, dy, fs, gs, rfl, rfl, h1, h2, n, cs, mx, my⟩, fun H' ex => q _ _ B H' rfl ⟨Ex.refl B, fun c o h => ex c o (e c o h), fun c o _ h z => ⟨z, ex c o h⟩, fun c ec hdr => ?_⟩ rfl⟩
  obtain ⟨z, ns, h⟩ := hdr
  exact ⟨z, ns, ex _ _ h⟩
end
section
variable {D : Option Addr} {ρ : List Sl} {ta tb te : TE} {K : PySem.W.Frag} {a : Addr} {ns : List Int}
abbrev scr (K : PySem.W.Frag) (a : Addr) (ns : List Int) : Sl := .sq a fun H => SqL K H a (ns.map V.int)
theorem ev_lenQ {i : Nat} (hi : ρ[i]? = some (scr K a ns)) : EV D (tCB (fun xs H Q => ∃ p ys, xs = [.ref p] ∧ (SqL K H p ys ∨ SqT K H p ys) ∧ Q (.int ys.length) H) (tCons (tVar i) tNil)) ρ (.int (ns.length : Int)) := fun σ B H l Q q => by
  obtain ⟨e1, hs⟩ := l.sq hi
  refine ⟨.ref a, e1, a, _, rfl, .inl (hs H l.ex), ?_⟩
  rw [List.length_map]
  exact q _ _ B H rfl (Gr.refl l.ex) rfl
theorem ev_ixQ {i k : Nat} {x : Int} (hi : ρ[i]? = some (scr K a ns)) (hb : EV D tb ρ (.int (k : Int))) (hx : ns[k]? = some x) : EV D (tOp (rIxL K) (tVar i) tb) ρ (.int x) := fun σ B H l Q q => by
  obtain ⟨e1, _⟩ := l.sq hi
  refine ⟨.ref a, e1, hb σ B H l _ fun v d B1 H1 pd g hv => ?_⟩
  subst pd
  obtain ⟨_, hs⟩ := (l.gr g).sq hi
  refine ⟨a, _, (k : Int), .int x, rfl, hv, hs H1 g.i, ?_, q _ _ B1 H1 rfl g rfl⟩
  unfold atI ixN
  have l : k < ns.length := (List.getElem?_eq_some_iff.mp hx).1
  rw [if_pos (by omega), if_pos (by rw [List.length_map]; omega)]
  show (ns.map V.int)[((k : Int)).toNat]? = _
  rw [Int.toNat_natCast, List.getElem?_map, hx]
  rfl
theorem ev_min {i j : Int} (ha : EV D ta ρ (.int i)) (hb : EV D tb ρ (.int j)) : EV D (tCB (fun xs H Q => ∃ i j, xs = [.int i, .int j] ∧ Q (.int (if j < i then j else i)) H) (tCons ta (tCons tb tNil))) ρ (.int (if j < i then j else i)) := ev_cb (ea_cons ha (ea_one hb)) fun vs B H e hs Q q => by
  obtain ⟨x, r, rfl, hx, hr⟩ := hs
  obtain ⟨y, r2, rfl, hy, hr2⟩ := hr
  cases (show r2 = [] from hr2)
  exact ⟨i, j, by rw [show x = .int i from hx, show y = .int j from hy], q _ rfl⟩
theorem ev_pow {i j : Int} (h : CPow i j) (ha : EV D ta ρ (.int i)) (hb : EV D tb ρ (.int j)) : EV D (tOp (rI CPow fun i j => .int (i ^ j.toNat)) ta tb) ρ (.int (i ^ j.toNat)) := ev_op ha hb (rd_I h fun _ => rfl)
theorem ev_fdiv {i j : Int} (h : CDiv i j) (ha : EV D ta ρ (.int i)) (hb : EV D tb ρ (.int j)) : EV D (tOp (rI CDiv fun i j => .int (i / j)) ta tb) ρ (.int (i / j)) := ev_op ha hb (rd_I h fun _ => rfl)
end
/-- an if without else; both ways lead to a state R x -/
theorem q_ifM {D : Option Addr} {B0 H0 Bk B H : Hp} {ρ : List Sl} {σ : L2.St} {tt : TT} {tu tz : TS} {Dn : Ends} {α : Type} (R : α → List Sl) {b : Bool} (s : Sta D B0 H0 Bk ρ σ B H) (h : ET D tt ρ b)
    (h1 : b = true → ∀ B' H', Sta D B0 H0 Bk ρ σ B' H' → ∀ N : L2.St → Hp → Prop, (∀ x σ2 B2 H2, Sta D B0 H0 Bk (R x) σ2 B2 H2 → N σ2 H2) → tu { Dn with nx := N } σ H') (h2 : b = false → ∃ x, ρ = R x)
    (k : ∀ x σ' B' H', Sta D B0 H0 Bk (R x) σ' B' H' → tz Dn σ' H') : tSeq (tIfS tt tu tNext) tz Dn σ H :=
  q_if s h (fun hb B' H' st => h1 hb B' H' st (tz Dn) k) fun hb B' H' st => by
    obtain ⟨x, e⟩ := h2 hb
    exact k x σ B' H' (e ▸ st)
/-- the draws of a script: some ints in a list -/
def spDr (K : PySem.W.Frag) : Sp := fun vs H Q _ => ∃ (a : Addr) (ns : List Int), vs = [.ref a] ∧ SqL K H a (ns.map V.int) ∧ ∀ p (ms : List Int) H2, H2 p = some (.lst (ms.map V.int)) → Q (.ref p) H2
section
variable {P : Program} {w : World} {K : PySem.W.Frag} {mg : PySem.Str → Option Value} {base : Heap}
abbrev nm__law_draws : List PySem.Str := [("_law_script" : PySem.Str), ("_law_draws_here" : PySem.Str), ("_law_place" : PySem.Str), ("_law_cell" : PySem.Str), ("_law_turn" : PySem.Str), ("_law_seed" : PySem.Str)]
abbrev ps__law_draws : List PySem.Str := [("_law_script" : PySem.Str)]
theorem sc__law_draws : FnScope nm__law_draws ps__law_draws (defScope st__law_draws) := ⟨rfl, rfl, rfl, by decide +kernel, rfl, by decide +kernel, by decide +kernel⟩
/- slots: 0:_law_script 1:_law_draws_here 2:_law_place 3:_law_cell 4:_law_turn 5:_law_seed -/
theorem ok__law_draws (T : Tx K mg) : OkF P w K mg base CX0 "_law_draws" 1 ps__law_draws (spDr K) := by
  refine Df.ok T.d__law_draws sc__law_draws (fun _ _ _ _ _ _ us hl => match us, hl with | [_], _ => rfl) (fun vs H Q E h => by obtain ⟨_, _, rfl, _⟩ := h; rfl) (fun cdv A outer s H vs Q E hr h => ?_)
  obtain ⟨a, ns, rfl, hs, k⟩ := h
  have ex0 : Ex (fun b => if b = a then H a else none) H := fun b o q => by
    by_cases e : b = a
    · subst e
      simpa using q
    · simp [e] at q
  have hs0 : SqL K (fun b => if b = a then H a else none) a (ns.map V.int) := by
    rcases hs with (h | ⟨o, h⟩) | h
    · exact .inl (.inl (by simpa using h))
    · exact .inl (.inr ⟨o, by simpa using h⟩)
    · exact .inr h
  have st : Sta none (fun b => if b = a then H a else none) H (fun b => if b = a then H a else none) [scr K a ns, .any, .any, .any, .any, .any] (L2.start nm__law_draws [.ref a]) (fun b => if b = a then H a else none) H := by
    refine Sta.start ex0 ⟨ex0, rfl, fun i => ?_, fun _ e => nomatch e⟩ fun i ds q => ?_
    · match i with
      | 0 => exact ⟨rfl, fun H' e' => Evl.ex_l e' hs0⟩
      | 1 => trivial
      | 2 => trivial
      | 3 => trivial
      | 4 => trivial
      | 5 => trivial
      | i + 6 => trivial
    · match i with
      | 0 => cases q
      | 1 => cases q
      | 2 => cases q
      | 3 => cases q
      | 4 => cases q
      | 5 => cases q
      | i + 6 => cases q
  refine ⟨_, PSs.nox (pss_cons (ps_set (i := 1) sc__law_draws.nd rfl (Or.inl rfl) (pe_lst pa_nil))
      (pss_cons (ps_for PassesOwn.never rfl (pi_range1 (by rfl) T.b_range (pa_cons (pe_callB (call_min2 rfl) (by rfl) T.b_min boot_min (pa_cons (pe_callB (call_len_k (K := K)) (by rfl) T.b_len boot_len (pa_cons (pv 0) pa_nil)) (pa_cons pe_int pa_nil))) pa_nil)) (pg_name (i := 2) sc__law_draws.nd rfl (Or.inl rfl)) (pss_cons (ps_set (i := 3) sc__law_draws.nd rfl (Or.inl rfl) (pe_callTy call_int1 (by rfl) T.b_int boot_int (pa_cons (pe_ix (ix_list_k (K := K)) (pv 0) (pv 2) (fun _ _ => rfl)) pa_nil)))
      (pss_cons (ps_if (pt_cmpR op_lt (pv 3) pe_int (nomark _)) (pss_one (ps_set (i := 3) sc__law_draws.nd rfl (Or.inl rfl) (pe_op op_sub pe_int (pv 3)))) pss_nil)
      (pss_one (ps_if (pt_cmpR op_ge (pv 3) (pe_op op_pow pe_int pe_int) (nomark _)) (pss_one (ps_for PassesOwn.never rfl (pi_range1 (by rfl) T.b_range (pa_cons pe_int pa_nil)) (pg_name (i := 4) sc__law_draws.nd rfl (Or.inl rfl)) (pss_one (ps_if (pt_cmpR op_gt (pv 3) pe_int (nomark _)) (pss_cons (ps_expr (pe_bm PySem.F.plainAttrs_list PySem.F.slot_list_append PySem.F.type_list_append mt_append (pv 1) (pa_cons (pe_op op_mod (pe_callTy call_int1 (by rfl) T.b_int boot_int (pa_cons (pv 3) pa_nil)) pe_int) pa_nil)))
      (pss_one (ps_set (i := 3) sc__law_draws.nd rfl (Or.inl rfl) (pe_op op_fdiv (pv 3) pe_int)))) pss_nil)))) (pss_cons (ps_set (i := 5) sc__law_draws.nd rfl (Or.inl rfl) (pe_op op_mod (pe_callTy call_int1 (by rfl) T.b_int boot_int (pa_cons (pe_op op_add (pe_op op_add (pe_op op_mul (pv 3) pe_int) (pe_op op_mul (pv 2) pe_int)) pe_int) pa_nil)) pe_int))
      (pss_one (ps_for PassesOwn.never rfl (pi_range1 (by rfl) T.b_range (pa_cons pe_int pa_nil)) (pg_name (i := 4) sc__law_draws.nd rfl (Or.inl rfl)) (pss_cons (ps_set (i := 5) sc__law_draws.nd rfl (Or.inl rfl) (pe_op op_mod (pe_callTy call_int1 (by rfl) T.b_int boot_int (pa_cons (pe_op op_add (pe_op op_add (pe_op op_add (pe_op op_mul (pv 5) (pv 5)) (pe_op op_mul (pv 4) pe_int)) (pe_op op_mul (pv 2) pe_int)) pe_int) pa_nil)) pe_int))
      (pss_one (ps_expr (pe_bm PySem.F.plainAttrs_list PySem.F.slot_list_append PySem.F.type_list_append mt_append (pv 1) (pa_cons (pv 5) pa_nil)))))))))))))
      (pss_one (ps_ret (pe_revL_k (K := K) (pv 1)))))), ?_⟩
  refine q_new st (eo_lst ea_nil) ex0 fun σ1 B1 H1 st1 => ?_
  have hm : ∃ m : Nat, (if (63 : Int) < (ns.length : Int) then (63 : Int) else (ns.length : Int)) = (m : Int) ∧ m ≤ 63 ∧ m ≤ ns.length := by
    by_cases h : (63 : Int) < (ns.length : Int)
    · exact ⟨63, by rw [if_pos h]; rfl, Nat.le_refl _, by omega⟩
    · exact ⟨ns.length, by rw [if_neg h], by omega, Nat.le_refl _⟩
  obtain ⟨m, em, hm1, hm2⟩ := hm
  refine q_for Dt.int (fun x => [(2, .int x)]) (upto m) st1 (ei_to (ei_rng1 (n := m) (EV.to (ev_min (ev_lenQ (i := 0) rfl) ev_int) (congrArg Dt.int em)) (by omega)) rangeD0) (fun _ _ => eg_name)
    (fun i ρ' => ∃ ms : List Int, ρ' = [scr K a ns, .own (intsD ms), .any, .any, .any, .any] ∧ ms.length ≤ 50 * i) ⟨[], rfl, Nat.zero_le _⟩ ?_ ?_
  · rintro Bj i pl ρ' σ' B2 H2 hpl ⟨ms, rfl, hz⟩ st2
    have hi : i < m := by
      have := (List.getElem?_eq_some_iff.mp hpl).1
      rwa [upto_len] at this
    rw [upto_get hi] at hpl
    cases hpl
    have hx : ns[i]? = some (ns[i]'(by omega)) := List.getElem?_eq_getElem _
    generalize ns[i]'(by omega) = x at hx
    refine q_setE st2 (ev_int1 (ev_ixQ (i := 0) rfl (ev_var (i := 2)) hx)) fun σ3 B3 H3 st3 => ?_
    refine q_ifM (fun c : Int => [scr K a ns, .own (intsD ms), .dat (.int (i : Int)), .dat (.int c), .any, .any]) st3 (et_test (ev_lt (ev_var (i := 3)) ev_int)) (fun hb B4 H4 st4 N hN => s_setE st4 (ev_sub ev_int (ev_var (i := 3))) fun σ5 B5 H5 st5 => hN _ σ5 B5 H5 st5) (fun hb => ⟨x, rfl⟩) fun c σ4 B4 H4 st4 => ?_
    refine s_if st4 (et_test (ev_ge (ev_var (i := 3)) (ev_pow ⟨by decide, by decide, by decide⟩ ev_int ev_int))) (fun hb B5 H5 st5 => ?_) (fun hb B5 H5 st5 => ?_)
    · refine s_for Dt.int (fun x => [(4, .int x)]) (upto 50) st5 (ei_to (ei_rng1 (n := 50) ev_int (by decide)) rangeD0) (fun _ _ => eg_name)
        (fun j ρ' => ∃ (ms2 : List Int) (c2 : Int), ρ' = [scr K a ns, .own (intsD ms2), .dat (.int (i : Int)), .dat (.int c2), .any, .any] ∧ ms2.length ≤ 50 * i + j) ⟨ms, c, rfl, hz⟩ ?_ ?_
      · rintro Bk2 j y ρ' σ' B6 H6 hy ⟨ms2, c2, rfl, hz2⟩ st6
        have hj : j < 50 := by
          have := (List.getElem?_eq_some_iff.mp hy).1
          rwa [upto_len] at this
        refine s_if st6 (et_test (ev_gt (ev_var (i := 3)) ev_int)) (fun hb2 B7 H7 st7 => ?_) (fun hb2 B7 H7 st7 => ⟨_, B7, ⟨ms2, c2, rfl, by omega⟩, st7.weak (.same (.same (.same (.same (.any (.any .nil))))))⟩)
        refine q_app st7 rfl (P := fun d => d = .int (c2 % 30)) (ev_mod (by decide) (ev_int1 (ev_var (i := 3))) ev_int) (by rw [List.length_map]; omega) fun d B8 H8 p st8 => ?_
        subst p
        refine s_setE st8 (ev_fdiv ⟨by decide, by decide⟩ (ev_var (i := 3)) ev_int) fun σ9 B9 H9 st9 => ⟨_, B9, ⟨ms2 ++ [c2 % 30], c2 / 30, rfl, ?_⟩, ?_⟩
        · rw [List.length_append]
          show ms2.length + 1 ≤ _
          omega
        · rw [intsD_snoc]
          exact st9.weak (.same (.same (.same (.same (.any (.any .nil))))))
      · rintro ρ' σ' B6 H6 ⟨ms2, c2, rfl, hz2⟩ st6
        rw [upto_len] at hz2
        exact ⟨_, B6, ⟨ms2, rfl, by omega⟩, st6.weak (.same (.same (.any (.any (.any (.any .nil))))))⟩
    · refine q_setE st5 (ev_mod (by decide) (ev_int1 (ev_add (ev_add (ev_mul (.inr ⟨by decide, by decide⟩) (ev_var (i := 3)) ev_int) (ev_mul (.inr ⟨by decide, by decide⟩) (ev_var (i := 2)) ev_int)) ev_int)) ev_int) fun σ6 B6 H6 st6 => ?_
      refine s_for Dt.int (fun x => [(4, .int x)]) (upto 6) st6 (ei_to (ei_rng1 (n := 6) ev_int (by decide)) rangeD0) (fun _ _ => eg_name)
        (fun j ρ' => ∃ (ms2 : List Int) (sd : Int), ρ' = [scr K a ns, .own (intsD ms2), .dat (.int (i : Int)), .dat (.int c), .any, .dat (.int sd)] ∧ ms2.length ≤ 50 * i + j ∧ 0 ≤ sd ∧ sd < 2147483648) ⟨ms, _, rfl, hz, Int.emod_nonneg _ (by decide), Int.lt_trans (Int.emod_lt_of_pos _ (by decide)) (by decide)⟩ ?_ ?_
      · rintro Bk2 j y ρ' σ' B7 H7 hy ⟨ms2, sd, rfl, hz2, hs1, hs2⟩ st7
        have hj : j < 6 := by
          have := (List.getElem?_eq_some_iff.mp hy).1
          rwa [upto_len] at this
        refine q_setE st7 (ev_mod (by decide) (ev_int1 (ev_add (ev_add (ev_add (ev_mul (i := sd) (j := sd) (.inl ⟨by omega, by omega⟩) (ev_var (i := 5)) (ev_var (i := 5))) (ev_mul (i := y) (.inr ⟨by decide, by decide⟩) (ev_var (i := 4)) ev_int)) (ev_mul (i := (i : Int)) (.inr ⟨by decide, by decide⟩) (ev_var (i := 2)) ev_int)) ev_int)) ev_int) fun σ8 B8 H8 st8 => ?_
        have b1 : 0 ≤ (sd * sd + y * 90001 + (i : Int) * 43 + 3) % 2147483587 := Int.emod_nonneg _ (by decide)
        have b2 : (sd * sd + y * 90001 + (i : Int) * 43 + 3) % 2147483587 < 2147483648 := Int.lt_trans (Int.emod_lt_of_pos _ (by decide)) (by decide)
        generalize (sd * sd + y * 90001 + (i : Int) * 43 + 3) % 2147483587 = sd' at st8 b1 b2
        refine s_app st8 rfl (ev_var (i := 5)) (by rw [List.length_map]; omega) fun d B9 H9 p st9 => ⟨_, B9, ⟨ms2 ++ [sd'], sd', rfl, ?_, b1, b2⟩, ?_⟩
        · rw [List.length_append]
          show ms2.length + 1 ≤ _
          omega
        · rw [intsD_snoc]
          subst p
          exact st9.weak (.same (.same (.same (.same (.any (.same .nil))))))
      · rintro ρ' σ' B7 H7 ⟨ms2, sd, rfl, hz2, _⟩ st7
        rw [upto_len] at hz2
        exact ⟨_, B7, ⟨ms2, rfl, by omega⟩, st7.weak (.same (.same (.any (.any (.any (.any .nil))))))⟩
  · rintro ρ' σ' B2 H2 ⟨ms, rfl, hz⟩ st2
    obtain ⟨B3, st3⟩ := st2.know (i := 1) rfl
    refine eo_rev (ev_var (i := 1) (d := .lst (intsD ms))) σ' B3 H2 st3.rl _ fun p xs ds B4 H4 eds g n z hx hl => ?_
    subst eds
    have e2 : (intsD ms).reverse = intsD ms.reverse := List.map_reverse.symm
    rw [e2] at hl
    rw [hasL_ints.mp hl] at hx
    exact k p ms.reverse H4 hx
end
end K37
/-! K37I: the law's refusals, all of them -/
namespace K37
open PySem PyProof.Rows L2
open Evl (Ex)
section
variable {D : Option Addr} {ρ : List Sl} {ta tb : TE}
theorem ev_mulS {z : PySem.Str} {n : Int} (h : MulOk z n) (ha : EV D ta ρ (.str z)) (hb : EV D tb ρ (.int n)) : EV D (tOp rMulS ta tb) ρ (.str (Txt.mul z n)) := ev_op ha hb (rd_of fun v w B H e hx hy Q q => by
  have e1 : v = .str z := hx
  have e2 : w = .int n := hy
  subst e1 e2
  exact ⟨z, n, rfl, rfl, h, q _ rfl⟩)
end
theorem mulOk0 : ∀ n : Nat, 1 ≤ n → n ≤ 5 → MulOk "0" (n : Int) := by
  intro n h1 h2
  match n, h1, h2 with
  | 1, _, _ => exact ⟨by decide +kernel, by decide +kernel, by decide +kernel⟩
  | 2, _, _ => exact ⟨by decide +kernel, by decide +kernel, by decide +kernel⟩
  | 3, _, _ => exact ⟨by decide +kernel, by decide +kernel, by decide +kernel⟩
  | 4, _, _ => exact ⟨by decide +kernel, by decide +kernel, by decide +kernel⟩
  | 5, _, _ => exact ⟨by decide +kernel, by decide +kernel, by decide +kernel⟩
/-- a first part without strangers -/
theorem strange_pre (n : Int) (rest : List Dt) : ∀ (A seen : List Int) (k : Nat), A.Nodup → (∀ x ∈ A, 0 ≤ x ∧ x < n) → (∀ x ∈ A, x ∉ seen) → strange n seen k (intsD A ++ rest) = strange n (seen ++ A) (k + A.length) rest
  | [], seen, k, _, _, _ => by rw [List.append_nil]; rfl
  | x :: A, seen, k, hd, hb, hs => by
    show (if (decide (0 ≤ x) && decide (x < n)) && !decide (x ∈ seen) then strange n (seen ++ [x]) (k + 1) (intsD A ++ rest) else some k) = _
    have b := hb x List.mem_cons_self
    rw [decide_eq_true b.1, decide_eq_true b.2, decide_eq_false (hs x List.mem_cons_self)]
    have hd' := List.nodup_cons.mp hd
    show strange n (seen ++ [x]) (k + 1) (intsD A ++ rest) = _
    rw [strange_pre n rest A _ _ hd'.2 (fun y hy => hb y (List.mem_cons_of_mem _ hy)) fun y hy h => ?_]
    · rw [List.append_assoc, List.length_cons]
      have e : k + 1 + A.length = k + (A.length + 1) := by omega
      rw [e]
      rfl
    · rcases List.mem_append.mp h with h | h
      · exact hs y (List.mem_cons_of_mem _ hy) h
      · have e : y = x := by simpa using h
        subst e
        exact hd'.1 hy
theorem strange_bad {n : Int} {seen : List Int} {k : Nat} {d : Dt} {rest : List Dt} (h : isW n d = false ∨ ∃ x, d = .int x ∧ x ∈ seen) : strange n seen k (d :: rest) = some k := by
  rcases h with h | ⟨x, rfl, hx⟩
  · cases d with
    | int i =>
      show (if (decide (0 ≤ i) && decide (i < n)) && !decide (i ∈ seen) then strange n (seen ++ [i]) (k + 1) rest else some k) = _
      rw [show (decide (0 ≤ i) && decide (i < n)) = false from h]
      rfl
    | _ => rfl
  · show (if (decide (0 ≤ x) && decide (x < n)) && !decide (x ∈ seen) then strange n (seen ++ [x]) (k + 1) rest else some k) = _
    rw [decide_eq_true hx, Bool.not_true, Bool.and_false]
    rfl
theorem shD_ord {p : Int} : shD (.tup [.str "order", .int p]) 1 = true := by
  show (shD (.str "order") 0 && (shD (.int p) 0 && true)) = true
  rw [show shD (.str "order") 0 = true by decide +kernel]
  rfl
theorem cutD_neg1 {ds : List Dt} (h : 1 ≤ ds.length) : cutD ds none (some (-1)) = ds.take (ds.length - 1) := by
  unfold cutD
  show (ds.drop 0).take (HT.sIx ds.length ds.length (some (-1)) - 0) = _
  rw [List.drop_zero, Nat.sub_zero]
  congr 1
  show (if (-1 : Int) < 0 then (-1 + (ds.length : Int)).toNat else min (-1 : Int).toNat ds.length) = _
  rw [if_pos (by decide)]
  omega
section
variable {P : Program} {w : World} {K : PySem.W.Frag} {mg : PySem.Str → Option Value} {base : Heap}
abbrev nm__law_refusals : List PySem.Str := [("_law_draws_here" : PySem.Str), ("_law_worlds" : PySem.Str), ("_law_cases" : PySem.Str), ("_law_told" : PySem.Str), ("_law_order" : PySem.Str), ("_law_at" : PySem.Str), ("_law_bad" : PySem.Str), ("_law_place" : PySem.Str), ("_law_outside" : PySem.Str), ("_law_world" : PySem.Str)]
abbrev ps__law_refusals : List PySem.Str := [("_law_draws_here" : PySem.Str), ("_law_worlds" : PySem.Str), ("_law_cases" : PySem.Str), ("_law_told" : PySem.Str)]
theorem sc__law_refusals : FnScope nm__law_refusals ps__law_refusals (defScope st__law_refusals) := ⟨rfl, rfl, rfl, by decide +kernel, rfl, by decide +kernel, by decide +kernel⟩
/- slots: 0:_law_draws_here 1:_law_worlds 2:_law_cases 3:_law_told 4:_law_order 5:_law_at 6:_law_bad 7:_law_place 8:_law_outside 9:_law_world -/
theorem ok__law_refusals (T : Tx K mg) (Xe : Te K mg) : OkF P w K mg base CX0 "_law_refusals" 10 ps__law_refusals
    (PD (fun p : Nat × List Case => p.1 ≤ 5 ∧ ToldOk (p.1 : Int) p.2) (fun p => [.int (p.1 : Int), casesL p.2, toldD K (p.1 : Int) p.2]) (fun _ d => d = .bl true)) := by
  refine Df.ok T.d__law_refusals sc__law_refusals (fun _ _ _ _ _ _ us hl => match us, hl with | [_, _, _, _], _ => rfl) (pd_len fun _ => rfl) (fun cdv A outer s H vs Q E hr h => ?_)
  obtain ⟨⟨n, cs⟩, B, a, ⟨hn5, ht⟩, e, dr, st, k⟩ := pd_open (N := nm__law_refusals) h
  dsimp only at hn5 ht st k
  have n1 : 1 ≤ n := by have := ht.n1; omega
  have few := ht.few
  have hdr : ∀ b, some a = some b → Dr b B H := fun b z => by
    cases z
    exact dr
  refine ⟨_, PSs.nox (pss_cons (ps_set (i := 4) sc__law_refusals.nd rfl (Or.inl rfl) (pe_listRg rfl (by rfl) T.b_list (prg_1 (by rfl) T.b_range (pv 1))))
      (pss_cons (ps_set (i := 5) sc__law_refusals.nd rfl (Or.inl rfl) (pe_callO (ok__law_take T) (hr.mono (by decide)) (pa_cons (pv 0) (pa_cons (pv 1) pa_nil))))
      (pss_cons (ps_for PassesOwn.never rfl (pi_seq_k (K := K) (pe_lst (pa_cons pe_non (pa_cons (pe_op op_cat (pv 4) (pe_lst (pa_cons (pv 1) pa_nil))) (pa_cons (pe_slice (sl_list_k (K := K)) (pv 4) (po_some pe_int) po_none) (pa_cons (pe_op op_mulS pe_str (pv 1)) (pa_cons pe_int pa_nil))))))) (pg_name (i := 6) sc__law_refusals.nd rfl (Or.inl rfl)) (pss_one (ps_if (pt_cmpR (op_neD_k (K := K) (hu64_of hr)) (pe_callO (ok__law_order_refused T Xe) (hr.mono (by decide)) (pa_cons (pv 6) (pa_cons (pv 3) pa_nil))) (pe_tup (pa_cons pe_str (pa_cons (pe_un un_neg pe_int) pa_nil))) (nomark _)) (pss_one (ps_ret pe_bl)) pss_nil)))
      (pss_cons (ps_for PassesOwn.never rfl (pi_seq_k (K := K) (pe_lst (pa_cons (pv 1) (pa_cons (pe_un un_neg pe_int) (pa_cons pe_bl (pa_cons pe_non (pa_cons (pe_tup (pa_cons pe_int pa_nil)) pa_nil))))))) (pg_name (i := 6) sc__law_refusals.nd rfl (Or.inl rfl)) (pss_one (ps_if (pt_cmpR (op_neD_k (K := K) (hu64_of hr)) (pe_callO (ok__law_order_refused T Xe) (hr.mono (by decide)) (pa_cons (pe_op op_cat (pe_op op_cat (pe_slice (sl_list_k (K := K)) (pv 4) po_none (po_some (pv 5))) (pe_lst (pa_cons (pv 6) pa_nil))) (pe_slice (sl_list_k (K := K)) (pv 4) (po_some (pe_op op_add (pv 5) pe_int)) po_none)) (pa_cons (pv 3) pa_nil))) (pe_tup (pa_cons pe_str (pa_cons (pv 5) pa_nil))) (nomark _)) (pss_one (ps_ret pe_bl)) pss_nil)))
      (pss_cons (ps_if (PW.pt (pw_and (pt_cmpR op_gt (pv 1) pe_int (nomark _)) (pw_and1 (pt_cmpR (op_neD_k (K := K) (hu64_of hr)) (pe_callO (ok__law_order_refused T Xe) (hr.mono (by decide)) (pa_cons (pe_op op_cat (pe_slice (sl_list_k (K := K)) (pv 4) po_none (po_some (pe_un un_neg pe_int))) (pe_lst (pa_cons (pe_ifExp (pt_cmpR op_gt (pv 5) pe_int (nomark _)) (pe_ix (ix_list_k (K := K)) (pv 4) (pe_op op_sub (pv 5) pe_int) (fun _ _ => rfl)) pe_int) pa_nil))) (pa_cons (pv 3) pa_nil))) (pe_tup (pa_cons pe_str (pa_cons (pe_op op_sub (pv 1) pe_int) pa_nil))) (nomark _))))) (pss_one (ps_ret pe_bl)) pss_nil)
      (pss_cons (ps_for PassesOwn.never rfl (pi_seq_k (K := K) (pe_lst (pa_cons (pe_callB (call_len_k (K := K)) (by rfl) T.b_len boot_len (pa_cons (pv 2) pa_nil)) (pa_cons (pe_un un_neg pe_int) (pa_cons pe_non (pa_cons pe_bl (pa_cons (pe_tup (pa_cons pe_int pa_nil)) pa_nil))))))) (pg_name (i := 6) sc__law_refusals.nd rfl (Or.inl rfl)) (pss_one (ps_if (pt_cmpR op_ne (pe_callO (ok__law_place_refused T Xe) (hr.mono (by decide)) (pa_cons (pv 3) (pa_cons (pv 6) (pa_cons pe_int pa_nil)))) pe_str (nomark _)) (pss_one (ps_ret pe_bl)) pss_nil)))
      (pss_cons (ps_if (pt_cmpR op_eq (pe_callB (call_len_k (K := K)) (by rfl) T.b_len boot_len (pa_cons (pv 2) pa_nil)) pe_int (nomark _)) (pss_one (ps_ret pe_bl)) pss_nil)
      (pss_cons (ps_set (i := 7) sc__law_refusals.nd rfl (Or.inr rfl) (pe_callO (ok__law_take T) (hr.mono (by decide)) (pa_cons (pv 0) (pa_cons (pe_callB (call_len_k (K := K)) (by rfl) T.b_len boot_len (pa_cons (pv 2) pa_nil)) pa_nil))))
      (pss_cons (ps_set (i := 8) sc__law_refusals.nd rfl (Or.inl rfl) (pe_op op_cat (pe_lst (pa_cons (pv 1) (pa_cons (pe_un un_neg pe_int) (pa_cons pe_non pa_nil)))) (pe_lc (own := [("_law_world", 9)]) rfl sc__law_refusals.nd (pi_range1 (by rfl) T.b_range (pa_cons (pv 1) pa_nil)) (blkOk_by (N := nm__law_refusals) (sc := (defScope st__law_refusals)) (by decide +kernel)) (fun _ _ _ _ _ => (pg_name (i := 9) sc__law_refusals.nd rfl (Or.inl rfl))) (fun _ _ _ _ _ => (pts_one (pt_cmpR (op_notIn_k (K := K)) (pv 9) (pe_ix (ix_tup_k (K := K)) (pe_ix (ix_list_k (K := K)) (pv 2) (pv 7) (fun _ _ => rfl)) pe_int (fun _ _ => rfl)) (by rfl)))) (fun _ _ _ _ _ => (pv 9)))))
      (pss_cons (ps_for PassesOwn.never rfl (pi_seq_k (K := K) (pv 8)) (pg_name (i := 6) sc__law_refusals.nd rfl (Or.inl rfl)) (pss_one (ps_if (pt_cmpR op_ne (pe_callO (ok__law_place_refused T Xe) (hr.mono (by decide)) (pa_cons (pv 3) (pa_cons (pv 7) (pa_cons (pv 6) pa_nil)))) pe_str (nomark _)) (pss_one (ps_ret pe_bl)) pss_nil)))
      (pss_one (ps_ret pe_bl)))))))))))), ?_⟩
  refine q_setE st (EO.ev (eo_lstRg (n := n) (ev_var (i := 1)) (by omega))) fun σ1 B1 H1 st1 => ?_
  refine q_set st1 (evp_take (b := (n : Int)) (i := 0) rfl (by omega) (ev_var (i := 1))) fun d2 σ2 B2 H2 ⟨at', hat, ed⟩ st2 => ?_
  subst ed
  obtain ⟨m, rfl⟩ : ∃ m : Nat, at' = (m : Int) := ⟨at'.toNat, by omega⟩
  have hm : m < n := by omega
  have lu : (intsD (upto n)).length = n := by rw [List.length_map, upto_len]
  -- the orders that are no rows of all worlds
  refine q_for (fun d : Dt => d) (fun d => [(6, d)]) [.non, .lst (intsD (upto n) ++ [.int (n : Int)]), .lst ((intsD (upto n)).drop 1), .str (Txt.mul "0" (n : Int)), .int 0] st2
    (ei_to (ei_seqA (EO.ev (eo_lst (ea_cons ev_non (ea_cons (EO.ev (ev_cat (ev_var (i := 4)) (EO.ev (eo_lst (ea_one (ev_var (i := 1))))) (by rw [lu]; show n + 1 ≤ _; omega))) (ea_cons (EV.to (EO.ev (eo_sl (ev_var (i := 4)) (eo_some ev_int) eo_none)) (congrArg Dt.lst (cutD_from (i := 1) (by omega)))) (ea_cons (ev_mulS (mulOk0 n n1 hn5) ev_str (ev_var (i := 1))) (ea_one ev_int))))))) (.inl rfl)) (List.map_id' _).symm) (fun _ _ => eg_name)
    (fun i ρ' => ρ' = [.drw, .dat (.int (n : Int)), .dat (casesL cs), .dat (toldD K (n : Int) cs), .dat (.lst (intsD (upto n))), .dat (.int (m : Int)), .any, .any, .any, .any]) rfl ?_ ?_
  · rintro Bj i d ρ' σ' B3 H3 hd rfl st3
    have sb : SaidBad (n : Int) d (-1) := by
      have hm := List.mem_of_getElem? hd
      rcases List.mem_cons.mp hm with rfl | hm
      · exact .inl ⟨rfl, rfl, rfl⟩
      rcases List.mem_cons.mp hm with rfl | hm
      · refine .inr ⟨_, .inl rfl, fun e he => ?_, by rw [List.length_append, lu]; show n + 1 ≤ _; omega, .inl ⟨by rw [List.length_append, lu]; show ((n + 1 : Nat) : Int) ≠ _; omega, rfl⟩⟩
        rcases List.mem_append.mp he with he | he
        · obtain ⟨x, _, rfl⟩ := List.mem_map.mp he
          rfl
        · have e5 : e = .int (n : Int) := by simpa using he
          rw [e5]
          rfl
      rcases List.mem_cons.mp hm with rfl | hm
      · refine .inr ⟨_, .inl rfl, fun e he => ?_, by rw [List.length_drop, lu]; omega, .inl ⟨by rw [List.length_drop, lu]; omega, rfl⟩⟩
        obtain ⟨x, _, rfl⟩ := List.mem_map.mp (List.mem_of_mem_drop he)
        rfl
      rcases List.mem_cons.mp hm with rfl | hm
      · exact .inl ⟨rfl, rfl, rfl⟩
      have e5 : d = .int 0 := by simpa using hm
      rw [e5]
      exact .inl ⟨rfl, rfl, rfl⟩
    refine s_if st3 (b := false) (et_to (et_test (ev_neD 1 (by decide) (EVP.imp (ev_call (d, (n : Int), cs, (-1 : Int)) sb (ea_cons (ev_var (i := 6)) (ea_one (ev_var (i := 3))))) fun d z => z) (ev_tup (ea_cons ev_str (ea_one (ev_neg ev_int)))) shD_ord shD_ord)) ?_) (fun z => nomatch z) fun _ B4 H4 st4 => ⟨_, B4, rfl, st4.weak (.same (.same (.same (.same (.same (.same (.any (.any (.any (.any .nil))))))))))⟩
    rw [eqv_self shD_ord]
    rfl
  · rintro ρ' σ' B3 H3 rfl st3
    -- rows of all worlds with a stranger at place m
    refine q_for (fun d : Dt => d) (fun d => [(6, d)]) [.int (n : Int), .int (-1), .bl true, .non, lotD [0]] st3
      (ei_to (ei_seqA (EO.ev (eo_lst (ea_cons (ev_var (i := 1)) (ea_cons (ev_neg ev_int) (ea_cons ev_bl (ea_cons ev_non (ea_one (ev_tup (ea_one ev_int))))))))) (.inl rfl)) (List.map_id' _).symm) (fun _ _ => eg_name)
      (fun i ρ' => ρ' = [.drw, .dat (.int (n : Int)), .dat (casesL cs), .dat (toldD K (n : Int) cs), .dat (.lst (intsD (upto n))), .dat (.int (m : Int)), .any, .any, .any, .any]) rfl ?_ ?_
    · rintro Bj i d ρ' σ' B4 H4 hd rfl st4
      have hw : isW (n : Int) d = false ∧ noObj d = true := by
        have hm := List.mem_of_getElem? hd
        rcases List.mem_cons.mp hm with rfl | hm
        · refine ⟨?_, rfl⟩
          show (decide (0 ≤ (n : Int)) && decide ((n : Int) < n)) = false
          rw [decide_eq_false (by omega : ¬ (n : Int) < n), Bool.and_false]
        rcases List.mem_cons.mp hm with rfl | hm
        · exact ⟨rfl, rfl⟩
        rcases List.mem_cons.mp hm with rfl | hm
        · exact ⟨rfl, rfl⟩
        rcases List.mem_cons.mp hm with rfl | hm
        · exact ⟨rfl, rfl⟩
        have e5 : d = lotD [0] := by simpa using hm
        rw [e5]
        exact ⟨rfl, rfl⟩
      have tl : ((intsD (upto n)).take m).length = m := by rw [List.length_take, lu]; omega
      have dl : ((intsD (upto n)).drop (m + 1)).length = n - (m + 1) := by rw [List.length_drop, lu]
      have sb : SaidBad (n : Int) (.lst ((intsD (upto n)).take m ++ [d] ++ (intsD (upto n)).drop (m + 1))) (m : Int) := by
        refine .inr ⟨_, .inl rfl, fun e he => ?_, ?_, .inr ⟨?_, m, ?_, rfl⟩⟩
        · rcases List.mem_append.mp he with he | he
          · rcases List.mem_append.mp he with he | he
            · obtain ⟨x, _, rfl⟩ := List.mem_map.mp (List.mem_of_mem_take he)
              rfl
            · have e5 : e = d := by simpa using he
              rw [e5]
              exact hw.2
          · obtain ⟨x, _, rfl⟩ := List.mem_map.mp (List.mem_of_mem_drop he)
            rfl
        · rw [List.length_append, List.length_append, tl, dl]
          show m + 1 + _ ≤ _
          omega
        · rw [List.length_append, List.length_append, tl, dl]
          show ((m + 1 + (n - (m + 1)) : Nat) : Int) = _
          omega
        · rw [List.append_assoc, show (intsD (upto n)).take m = intsD ((upto n).take m) from List.map_take.symm]
          rw [strange_pre (n : Int) _ ((upto n).take m) [] 0 (upto_nodup.sublist (List.take_sublist _ _)) (fun x hx => mem_upto.mp (List.mem_of_mem_take hx)) (fun x _ h => by cases h)]
          rw [show [d] ++ (intsD (upto n)).drop (m + 1) = d :: (intsD (upto n)).drop (m + 1) from rfl, strange_bad (.inl hw.1)]
          rw [List.length_take, upto_len]
          congr 1
          omega
      refine s_if st4 (b := false) (et_to (et_test (ev_neD 1 (by decide) (EVP.imp (ev_call (.lst ((intsD (upto n)).take m ++ [d] ++ (intsD (upto n)).drop (m + 1)), (n : Int), cs, (m : Int)) sb (ea_cons
        (EO.ev (ev_cat (EO.ev (ev_cat (EV.to (EO.ev (eo_sl (ev_var (i := 4)) eo_none (eo_some (ev_var (i := 5))))) (congrArg Dt.lst (cutD_to (i := m) (by omega)))) (EO.ev (eo_lst (ea_one (ev_var (i := 6))))) (by rw [tl]; show m + 1 ≤ _; omega)))
          (EV.to (EO.ev (eo_sl (ev_var (i := 4)) (eo_some (EV.to (ev_add (ev_var (i := 5)) ev_int) (y := .int ((m + 1 : Nat) : Int)) rfl)) eo_none)) (congrArg Dt.lst (cutD_from (i := m + 1) (by omega)))) (by rw [List.length_append, tl, dl]; show m + 1 + _ ≤ _; omega))) (ea_one (ev_var (i := 3))))) fun d z => z)
        (ev_tup (ea_cons ev_str (ea_one (ev_var (i := 5))))) shD_ord shD_ord)) ?_) (fun z => nomatch z) fun _ B5 H5 st5 => ⟨_, B5, rfl, st5.weak (.same (.same (.same (.same (.same (.same (.any (.any (.any (.any .nil))))))))))⟩
      rw [eqv_self shD_ord]
      rfl
    · rintro ρ' σ' B4 H4 rfl st4
      -- a world twice
      have tl : ((intsD (upto n)).take (n - 1)).length = n - 1 := by rw [List.length_take, lu]; omega
      have em : ∃ q : Nat, (q : Int) = (if 0 < m then ((m - 1 : Nat) : Int) else 0) ∧ (1 < n → q < n - 1) := by
        by_cases h : 0 < m
        · exact ⟨m - 1, by rw [if_pos h], fun _ => by omega⟩
        · exact ⟨0, by rw [if_neg h]; rfl, fun _ => by omega⟩
      obtain ⟨q, hq, hq2⟩ := em
      refine q_noF st4 (b := false) (et_to (et_and (b := false) (et_test (ev_gt (ev_var (i := 1)) ev_int)) fun hn => ?_) (Bool.and_false _)) rfl fun B5 H5 st5 => ?_
      · have hn' : 1 < n := by
          have := of_decide_eq_true hn
          omega
        have sb : SaidBad (n : Int) (.lst ((intsD (upto n)).take (n - 1) ++ [.int (q : Int)])) ((n - 1 : Nat) : Int) := by
          refine .inr ⟨_, .inl rfl, fun e he => ?_, ?_, .inr ⟨?_, n - 1, ?_, rfl⟩⟩
          · rcases List.mem_append.mp he with he | he
            · obtain ⟨x, _, rfl⟩ := List.mem_map.mp (List.mem_of_mem_take he)
              rfl
            · have e5 : e = .int (q : Int) := by simpa using he
              rw [e5]
              rfl
          · rw [List.length_append, tl]
            show n - 1 + 1 ≤ _
            omega
          · rw [List.length_append, tl]
            show ((n - 1 + 1 : Nat) : Int) = _
            omega
          · rw [show (intsD (upto n)).take (n - 1) = intsD ((upto n).take (n - 1)) from List.map_take.symm]
            rw [strange_pre (n : Int) _ ((upto n).take (n - 1)) [] 0 (upto_nodup.sublist (List.take_sublist _ _)) (fun x hx => mem_upto.mp (List.mem_of_mem_take hx)) (fun x _ h => by cases h)]
            rw [strange_bad (.inr ⟨(q : Int), rfl, ?_⟩)]
            · rw [List.length_take, upto_len]
              congr 1
              omega
            · refine List.mem_of_getElem? (i := q) ?_
              rw [List.nil_append, List.getElem?_take_of_lt (hq2 hn'), upto_get (by omega)]
        refine et_to (et_test (ev_neD 1 (by decide) (EVP.imp (ev_call (.lst ((intsD (upto n)).take (n - 1) ++ [.int (q : Int)]), (n : Int), cs, ((n - 1 : Nat) : Int)) sb (ea_cons
          (EO.ev (ev_cat (EV.to (EO.ev (eo_sl (ev_var (i := 4)) eo_none (eo_some (ev_neg ev_int)))) (congrArg Dt.lst ((cutD_neg1 (by omega)).trans (by rw [lu])))) (EO.ev (eo_lst (ea_one (ev_if (b := decide (0 < m)) (et_to (et_test (ev_gt (ev_var (i := 5)) ev_int)) (decide_eq_decide.mpr (by omega)))
            (fun h => ev_ixL (i := m - 1) (ev_var (i := 4)) (EV.to (ev_sub (ev_var (i := 5)) ev_int) (by congr 1; have := of_decide_eq_true h; omega)) ?_) (fun h => EV.to ev_int ?_))))) (by rw [tl]; show n - 1 + 1 ≤ _; omega))) (ea_one (ev_var (i := 3))))) fun d z => z)
          (ev_tup (ea_cons ev_str (ea_one (EV.to (ev_sub (ev_var (i := 1)) ev_int) (y := .int ((n - 1 : Nat) : Int)) (by congr 1; omega))))) shD_ord shD_ord)) ?_
        · have h' := of_decide_eq_true h
          rw [if_pos h'] at hq
          rw [List.getElem?_map, upto_get (by omega), hq]
          rfl
        · have h' := of_decide_eq_false h
          rw [if_neg h'] at hq
          rw [hq]
        · rw [eqv_self shD_ord]
          rfl
      -- places that are none
      refine q_for (fun d : Dt => d) (fun d => [(6, d)]) [.int (cs.length : Int), .int (-1), .non, .bl true, lotD [0]] st5
        (ei_to (ei_seqA (EO.ev (eo_lst (ea_cons (EV.to (ev_lenS (ev_var (i := 2)) (.inl rfl)) (by rw [List.length_map])) (ea_cons (ev_neg ev_int) (ea_cons ev_non (ea_cons ev_bl (ea_one (ev_tup (ea_one ev_int))))))))) (.inl rfl)) (List.map_id' _).symm) (fun _ _ => eg_name)
        (fun i ρ' => ρ' = [.drw, .dat (.int (n : Int)), .dat (casesL cs), .dat (toldD K (n : Int) cs), .dat (.lst (intsD (upto n))), .dat (.int (m : Int)), .any, .any, .any, .any]) rfl ?_ ?_
      · rintro Bj i d ρ' σ' B6 H6 hd rfl st6
        have pb : PlaceBad cs.length d := by
          have hm := List.mem_of_getElem? hd
          rcases List.mem_cons.mp hm with rfl | hm
          · exact .inr ⟨_, rfl, .inr (by omega)⟩
          rcases List.mem_cons.mp hm with rfl | hm
          · exact .inr ⟨_, rfl, .inl (by omega)⟩
          rcases List.mem_cons.mp hm with rfl | hm
          · exact .inl ⟨rfl, rfl⟩
          rcases List.mem_cons.mp hm with rfl | hm
          · exact .inl ⟨rfl, rfl⟩
          have e5 : d = lotD [0] := by simpa using hm
          rw [e5]
          exact .inl ⟨rfl, rfl⟩
        refine s_if st6 (b := false) (et_to (et_test (ev_neS (EVP.imp (ev_call ((n : Int), cs, d, Dt.int 0, ("place" : PySem.Str)) (.inl ⟨pb, rfl⟩) (ea_cons (ev_var (i := 3)) (ea_cons (ev_var (i := 6)) (ea_one ev_int)))) fun d z => z) ev_str)) ?_) (fun z => nomatch z) fun _ B7 H7 st7 => ⟨_, B7, rfl, st7.weak (.same (.same (.same (.same (.same (.same (.any (.any (.any (.any .nil))))))))))⟩
        rw [decide_eq_true rfl]
        rfl
      · rintro ρ' σ' B6 H6 rfl st6
        refine q_ifN st6 (et_test (ev_eqI (EV.to (ev_lenS (ev_var (i := 2)) (.inl rfl)) (by rw [List.length_map])) ev_int)) (fun hb B7 H7 st7 => s_ret st7 ev_bl fun v d B8 H8 p g hv => k v d B8 H8 p g hv) (fun hb B7 H7 st7 => ?_)
        have hne : cs.length ≠ 0 := fun z => by
          have := of_decide_eq_false hb
          omega
        refine q_set st7 (evp_take (b := (cs.length : Int)) (i := 0) rfl (by omega) (EV.to (ev_lenS (ev_var (i := 2)) (.inl rfl)) (by rw [List.length_map]))) fun d8 σ8 B8 H8 ⟨pl, hpl, ed⟩ st8 => ?_
        subst ed
        obtain ⟨pi, rfl⟩ : ∃ pi : Nat, pl = (pi : Int) := ⟨pl.toNat, by omega⟩
        have hpi : pi < cs.length := by omega
        have hc : cs[pi]? = some cs[pi] := List.getElem?_eq_getElem hpi
        generalize cs[pi] = c at hc
        have gc := ht.good c (List.mem_of_getElem? hc)
        have fl : ((upto n).filter fun x => !decide (x ∈ c.2)).length ≤ n := by
          refine Nat.le_trans (List.length_filter_le _ _) ?_
          rw [upto_len]
          exact Nat.le_refl _
        refine q_setE st8 (EO.ev (ev_cat (EO.ev (eo_lst (ea_cons (ev_var (i := 1)) (ea_cons (ev_neg ev_int) (ea_one ev_non))))) (EO.ev (eo_lc Dt.int (fun x => [(9, .int x)]) (upto n) (ei_to (ei_rng1 (n := n) (ev_var (i := 1)) (by omega)) rangeD0) (by rw [upto_len]; omega) (fun _ _ => eg_name) (by intro a _ j hj; simpa using hj) (fun x => !decide (x ∈ c.2))
          (fun x _ => et_test (ev_notIn (ns := c.2) (ev_var (i := 9)) (ev_ixT (i := 1) (d := lotD c.2) (ev_ixL (i := pi) (d := caseD c) (ev_var (i := 2)) (ev_var (i := 7)) (by rw [List.getElem?_map, hc]; rfl)) ev_int rfl))) Dt.int (fun x _ _ => ev_var (i := 9)))) (by rw [List.length_map]; show 3 + _ ≤ _; omega))) fun σ9 B9 H9 st9 => ?_
        refine q_for (fun d : Dt => d) (fun d => [(6, d)]) ([.int (n : Int), .int (-1), .non] ++ ((upto n).filter fun x => !decide (x ∈ c.2)).map Dt.int) st9 (ei_to (ei_seqA (ev_var (i := 8)) (.inl rfl)) (List.map_id' _).symm) (fun _ _ => eg_name)
          (fun i ρ' => ρ' = [.drw, .dat (.int (n : Int)), .dat (casesL cs), .dat (toldD K (n : Int) cs), .dat (.lst (intsD (upto n))), .dat (.int (m : Int)), .any, .dat (.int (pi : Int)), .dat (.lst ([.int (n : Int), .int (-1), .non] ++ ((upto n).filter fun x => !decide (x ∈ c.2)).map Dt.int)), .any]) rfl ?_ ?_
        · rintro Bj i d ρ' σ' Ba Ha hd rfl sta
          have wb : WorldBad c d := by
            have hm := List.mem_of_getElem? hd
            rcases List.mem_append.mp hm with hm | hm
            · rcases List.mem_cons.mp hm with rfl | hm
              · exact .inr ⟨_, rfl, fun h => by have := gc.a.bd _ h; omega⟩
              rcases List.mem_cons.mp hm with rfl | hm
              · exact .inr ⟨_, rfl, fun h => by have := gc.a.bd _ h; omega⟩
              have e5 : d = .non := by simpa using hm
              rw [e5]
              exact .inl ⟨rfl, rfl⟩
            · obtain ⟨x, hx, rfl⟩ := List.mem_map.mp hm
              refine .inr ⟨x, rfl, ?_⟩
              have := (List.mem_filter.mp hx).2
              simpa using this
          refine s_if sta (b := false) (et_to (et_test (ev_neS (EVP.imp (ev_call ((n : Int), cs, Dt.int (pi : Int), d, ("world" : PySem.Str)) (.inr ⟨pi, c, rfl, hc, wb, rfl⟩) (ea_cons (ev_var (i := 3)) (ea_cons (ev_var (i := 7)) (ea_one (ev_var (i := 6)))))) fun d z => z) ev_str)) ?_) (fun z => nomatch z) fun _ Bb Hb stb => ⟨_, Bb, rfl, stb.weak (.same (.same (.same (.same (.same (.same (.any (.same (.same (.any .nil))))))))))⟩
          rw [decide_eq_true rfl]
          rfl
        · rintro ρ' σ' Ba Ha rfl sta
          exact s_ret sta ev_bl fun v d Bb Hb p g hv => k v d Bb Hb p g hv
end
end K37
/-! K37J: _law_judged -/
namespace K37
open PySem PyProof.Rows L2
open Evl (Ex)
abbrev fitsL (n : Nat) (cs : List Case) : List (List Int) := (allOrd n).filter fun o => fitsB o cs
/-- what the plain law says of the peel -/
structure Mth (n : Nat) (cs : List Case) : Prop where
  m1 : ∀ v ∈ wantC (enumP 0 cs), fullW (n : Int) cs v = decide (v.2.2 ∈ (fitsL n cs).map fun o => firstOf o v.2.1.1)
  m2 : ∀ v ∈ wantC (enumP 0 cs), fullW (n : Int) cs v = false → (peelW (n : Int) cs v).2 = greatT n (narC cs v.1 v.2.1 v.2.2)
  m3 : ∀ v ∈ wantC (enumP 0 cs), fullW (n : Int) cs v = true → (peelW (n : Int) cs v).1 ∈ fitsL n cs ∧ firstOf (peelW (n : Int) cs v).1 v.2.1.1 = v.2.2
theorem filter_congr' {α : Type} {l : List α} {p q : α → Bool} (h : ∀ x ∈ l, p x = q x) : l.filter p = l.filter q := by
  induction l with
  | nil => rfl
  | cons a l ih =>
    rw [List.filter_cons, List.filter_cons, h a List.mem_cons_self, ih fun x hx => h x (List.mem_cons_of_mem _ hx)]
theorem Mth.lack {n : Nat} {cs : List Case} (M : Mth n cs) : lackL cs (fitsL n cs) = (wantC (enumP 0 cs)).filter fun v => !fullW (n : Int) cs v :=
  filter_congr' fun v hv => by rw [M.m1 v hv]
theorem ordGo_all {n : Int} {cs : List Case} : ∀ (vs : List Want) (acc : List Dt), (∀ v ∈ vs, fullW n cs v = true) → ordGo n cs vs acc = .tup (acc ++ vs.map fun v => lotD (peelW n cs v).1)
  | [], acc, _ => by rw [List.map_nil, List.append_nil]; rfl
  | v :: vs, acc, h => by
    show (if fullW n cs v then ordGo n cs vs (acc ++ [lotD (peelW n cs v).1]) else .non) = _
    rw [if_pos (h v List.mem_cons_self), ordGo_all vs _ fun u hu => h u (List.mem_cons_of_mem _ hu), List.append_assoc]
    rfl
theorem ordGo_none {n : Int} {cs : List Case} : ∀ (vs : List Want) (acc : List Dt) (v : Want), v ∈ vs → fullW n cs v = false → ordGo n cs vs acc = .non
  | u :: vs, acc, v, h, hf => by
    show (if fullW n cs u then ordGo n cs vs (acc ++ [lotD (peelW n cs u).1]) else .non) = _
    cases q : fullW n cs u with
    | false => rfl
    | true =>
      rcases List.mem_cons.mp h with e | e
      · rw [← e, hf] at q
        cases q
      · exact ordGo_none vs _ v e hf
theorem whyGo_all {n : Int} {cs : List Case} : ∀ (vs : List Want), (∀ v ∈ vs, fullW n cs v = true) → whyGo n cs vs = .non
  | [], _ => rfl
  | v :: vs, h => by
    show (if fullW n cs v then whyGo n cs vs else _) = _
    rw [if_pos (h v List.mem_cons_self)]
    exact whyGo_all vs fun u hu => h u (List.mem_cons_of_mem _ hu)
theorem whyGo_first {n : Int} {cs : List Case} : ∀ (vs : List Want) (v : Want) (r : List Want), vs.filter (fun v => !fullW n cs v) = v :: r → whyGo n cs vs = .tup [.int (v.1 : Int), .int v.2.2, lotD (peelW n cs v).2]
  | [], v, r, h => by cases h
  | u :: vs, v, r, h => by
    show (if fullW n cs u then whyGo n cs vs else .tup [.int (u.1 : Int), .int u.2.2, lotD (peelW n cs u).2]) = _
    rw [List.filter_cons] at h
    cases q : fullW n cs u with
    | true =>
      rw [q] at h
      exact whyGo_first vs v r h
    | false =>
      rw [q] at h
      injection h with h1 _
      rw [h1]
      rfl
theorem shD_why {i : Nat} {x : Int} {A : List Int} : shD (.tup [.int (i : Int), .int x, lotD A]) 2 = true := by
  show (shD (.int (i : Int)) 1 && (shD (.int x) 1 && (shD (lotD A) 1 && true))) = true
  rw [shD_lot]
  rfl
section
variable {P : Program} {w : World} {K : PySem.W.Frag} {mg : PySem.Str → Option Value} {base : Heap}
abbrev nm__law_judged : List PySem.Str := [("_law_told" : PySem.Str), ("_law_cases" : PySem.Str), ("_law_fits" : PySem.Str), ("_law_worlds" : PySem.Str), ("_law_orders_here" : PySem.Str), ("_law_why" : PySem.Str), ("_law_wanted_here" : PySem.Str), ("_law_lacking_here" : PySem.Str), ("_law_place" : PySem.Str), ("_law_world" : PySem.Str), ("_law_narrowed" : PySem.Str), ("_law_other" : PySem.Str), ("_law_at" : PySem.Str)]
abbrev ps__law_judged : List PySem.Str := [("_law_told" : PySem.Str), ("_law_cases" : PySem.Str), ("_law_fits" : PySem.Str), ("_law_worlds" : PySem.Str)]
theorem sc__law_judged : FnScope nm__law_judged ps__law_judged (defScope st__law_judged) := ⟨rfl, rfl, rfl, by decide +kernel, rfl, by decide +kernel, by decide +kernel⟩
/- slots: 0:_law_told 1:_law_cases 2:_law_fits 3:_law_worlds 4:_law_orders_here 5:_law_why 6:_law_wanted_here 7:_law_lacking_here 8:_law_place 9:_law_world 10:_law_narrowed 11:_law_other 12:_law_at -/
theorem ok__law_judged (T : Tx K mg) : OkF P w K mg base CX0 "_law_judged" 11 ps__law_judged
    (PF (fun p : Nat × List Case => p.1 ≤ 5 ∧ ToldOk (p.1 : Int) p.2 ∧ Mth p.1 p.2) (fun p => [toldD K (p.1 : Int) p.2, casesL p.2, .lst ((fitsL p.1 p.2).map lotD), .int (p.1 : Int)]) (fun _ r => r = .bl true)) := by
  refine Df.ok T.d__law_judged sc__law_judged (fun _ _ _ _ _ _ us hl => match us, hl with | [_, _, _, _], _ => rfl) (pf_len fun _ => rfl) (fun cdv A outer s H vs Q E hr h => ?_)
  obtain ⟨⟨n, cs⟩, B, ⟨hn5, ht, M⟩, e, st, k⟩ := pf_open (N := nm__law_judged) h
  dsimp only at hn5 ht M k st
  have n1 : 1 ≤ n := by have := ht.n1; omega
  have few := ht.few
  have sm : Small cs := ⟨few, fun c hc => (ht.good c hc).a.len12 ht.n2⟩
  have fl : (fitsL n cs).length ≤ 1000 := by
    obtain ⟨of, _⟩ := ord_facts n n1 hn5
    have := of_decide_eq_true (List.all_eq_true.mp of n (List.mem_range.mpr (by omega)))
    exact Nat.le_trans (List.length_filter_le _ _) (Nat.le_trans this (by decide))
  have wl := want_len sm (enumP 0 cs) enum_in
  rw [enumP_len] at wl
  refine ⟨_, PSs.nox (pss_cons (ps_set (i := 4) sc__law_judged.nd rfl (Or.inl rfl) (pe_callO (ok_orders_told T) (hr.mono (by decide)) (pa_cons (pv 0) pa_nil)))
      (pss_cons (ps_set (i := 5) sc__law_judged.nd rfl (Or.inl rfl) (pe_callO (ok_why_no_orders T) (hr.mono (by decide)) (pa_cons (pv 0) pa_nil)))
      (pss_cons (ps_set (i := 6) sc__law_judged.nd rfl (Or.inl rfl) (pe_callO (ok__law_wanted T) (hr.mono (by decide)) (pa_cons (pv 1) pa_nil)))
      (pss_cons (ps_set (i := 7) sc__law_judged.nd rfl (Or.inl rfl) (pe_callO (ok__law_lacking T) (hr.mono (by decide)) (pa_cons (pv 1) (pa_cons (pv 2) pa_nil))))
      (pss_cons (ps_if (pt_cmpR op_gt (pe_callB (call_len_k (K := K)) (by rfl) T.b_len boot_len (pa_cons (pv 7) pa_nil)) pe_int (nomark _)) (pss_cons (ps_set (i := 8) sc__law_judged.nd rfl (Or.inl rfl) (pe_ix (ix_tup_k (K := K)) (pe_ix (ix_list_k (K := K)) (pv 7) pe_int (fun _ _ => rfl)) pe_int (fun _ _ => rfl)))
      (pss_cons (ps_set (i := 9) sc__law_judged.nd rfl (Or.inl rfl) (pe_ix (ix_tup_k (K := K)) (pe_ix (ix_list_k (K := K)) (pv 7) pe_int (fun _ _ => rfl)) pe_int (fun _ _ => rfl)))
      (pss_cons (ps_set (i := 10) sc__law_judged.nd rfl (Or.inl rfl) (pe_op op_cat (pe_op op_cat (pe_slice (sl_list_k (K := K)) (pv 1) po_none (po_some (pv 8))) (pe_lst (pa_cons (pe_tup (pa_cons (pe_ix (ix_tup_k (K := K)) (pe_ix (ix_list_k (K := K)) (pv 1) (pv 8) (fun _ _ => rfl)) pe_int (fun _ _ => rfl)) (pa_cons (pe_tup (pa_cons (pv 9) pa_nil)) pa_nil))) pa_nil))) (pe_slice (sl_list_k (K := K)) (pv 1) (po_some (pe_op op_add (pv 8) pe_int)) po_none)))
      (pss_cons (ps_if (PW.pt (pw_or (pt_cmp (pc_notN (pv 4))) (pw_or1 (pt_cmpR (op_neD_k (K := K) (hu64_of hr)) (pv 5) (pe_tup (pa_cons (pv 8) (pa_cons (pv 9) (pa_cons (pe_callO (ok__law_greatest_torn T) (hr.mono (by decide)) (pa_cons (pv 10) (pa_cons (pv 3) pa_nil))) pa_nil)))) (nomark _))))) (pss_one (ps_ret pe_bl)) pss_nil)
      (pss_cons (ps_set (i := 11) sc__law_judged.nd rfl (Or.inl rfl) (pe_callO (ok_narrowed_told T) (hr.mono (by decide)) (pa_cons (pv 0) (pa_cons (pv 8) (pa_cons (pv 9) pa_nil)))))
      (pss_one (ps_ret (pe_and (pe_cmpR (op_eqD_k (K := K) (hu64_of hr)) (pe_fld_k (K := K) (pv 11)) (pe_callTy (call_tuple_k (K := K)) (by rfl) T.b_tuple boot_tuple (pa_cons (pv 10) pa_nil)) (nomark _)) (pe_and (pe_cmpR (op_eqD_k (K := K) (hu64_of hr)) (pe_callO (ok_torn_told T) (hr.mono (by decide)) (pa_cons (pv 11) pa_nil)) (pe_ix (ix_tup_k (K := K)) (pv 5) pe_int (fun _ _ => rfl)) (nomark _)) (pe_one (pe_cmpR (op_eqD_k (K := K) (hu64_of hr)) (pe_fld_k (K := K) (pv 0)) (pe_callTy (call_tuple_k (K := K)) (by rfl) T.b_tuple boot_tuple (pa_cons (pv 1) pa_nil)) (nomark _)))))))))))) pss_nil)
      (pss_cons (ps_if (PW.pt (pw_or (pt_cmp (pc_notN (pv 5))) (pw_or (pt_not (pt_val (pe_callB (call_isi_k (K := K)) (by rfl) T.b_isinstance boot_isinstance (pa_cons (pv 4) (pa_cons (pe_bltn (v := .ty "tuple") (by rfl) T.b_tuple boot_tuple rfl) pa_nil))))) (pw_or1 (pt_cmpR op_ne (pe_callB (call_len_k (K := K)) (by rfl) T.b_len boot_len (pa_cons (pv 4) pa_nil)) (pe_callB (call_len_k (K := K)) (by rfl) T.b_len boot_len (pa_cons (pv 6) pa_nil)) (nomark _)))))) (pss_one (ps_ret pe_bl)) pss_nil)
      (pss_cons (ps_for PassesOwn.never rfl (pi_range1 (by rfl) T.b_range (pa_cons (pe_callB (call_len_k (K := K)) (by rfl) T.b_len boot_len (pa_cons (pv 6) pa_nil)) pa_nil)) (pg_name (i := 12) sc__law_judged.nd rfl (Or.inl rfl)) (pss_cons (ps_if (pt_not (pt_val (pe_callO (ok__law_order_good T) (hr.mono (by decide)) (pa_cons (pe_ix (ix_tup_k (K := K)) (pv 4) (pv 12) (fun _ _ => rfl)) (pa_cons (pv 3) (pa_cons (pv 2) pa_nil)))))) (pss_one (ps_ret pe_bl)) pss_nil)
      (pss_one (ps_if (pt_cmpR op_ne (pe_callO (ok__law_first T) (hr.mono (by decide)) (pa_cons (pe_ix (ix_tup_k (K := K)) (pv 4) (pv 12) (fun _ _ => rfl)) (pa_cons (pe_ix (ix_tup_k (K := K)) (pe_ix (ix_list_k (K := K)) (pv 1) (pe_ix (ix_tup_k (K := K)) (pe_ix (ix_list_k (K := K)) (pv 6) (pv 12) (fun _ _ => rfl)) pe_int (fun _ _ => rfl)) (fun _ _ => rfl)) pe_int (fun _ _ => rfl)) pa_nil))) (pe_ix (ix_tup_k (K := K)) (pe_ix (ix_list_k (K := K)) (pv 6) (pv 12) (fun _ _ => rfl)) pe_int (fun _ _ => rfl)) (nomark _)) (pss_one (ps_ret pe_bl)) pss_nil))))
      (pss_one (ps_ret pe_bl))))))))), ?_⟩
  refine q_setE st (EVP.imp (ev_call ((n : Int), cs) ht (ea_one (ev_var (i := 0)))) fun d z => z) fun σ1 B1 H1 st1 => ?_
  refine q_setE st1 (EVP.imp (ev_call ((n : Int), cs) ht (ea_one (ev_var (i := 0)))) fun d z => z) fun σ2 B2 H2 st2 => ?_
  refine q_setE st2 (EVP.imp (ev_call cs sm (ea_one (ev_var (i := 1)))) fun d z => z) fun σ3 B3 H3 st3 => ?_
  refine q_setE st3 (EVP.imp (ev_call (cs, fitsL n cs) ⟨sm, fl⟩ (ea_cons (ev_var (i := 1)) (ea_one (ev_var (i := 2))))) fun d z => z) fun σ4 B4 H4 st4 => ?_
  dsimp only at st4
  rw [M.lack] at st4
  cases hl : (wantC (enumP 0 cs)).filter (fun v => !fullW (n : Int) cs v) with
  | cons v r =>
    rw [hl, whyGo_first _ v r hl] at st4
    have hv : v ∈ wantC (enumP 0 cs) ∧ fullW (n : Int) cs v = false := by
      have := List.mem_filter.mp (show v ∈ (wantC (enumP 0 cs)).filter (fun v => !fullW (n : Int) cs v) by rw [hl]; exact List.mem_cons_self)
      refine ⟨this.1, ?_⟩
      have h2 := this.2
      cases q : fullW (n : Int) cs v with
      | false => rfl
      | true =>
        rw [q] at h2
        cases h2
    rw [ordGo_none _ _ v hv.1 hv.2] at st4
    obtain ⟨hc, hx⟩ := want_mem hv.1
    have hi : v.1 < cs.length := (List.getElem?_eq_some_iff.mp hc).1
    have tn := narC_ok ht hc hx
    have lcs : (cs.map caseD).length = cs.length := List.length_map ..
    have nmap : (cs.map caseD).take v.1 ++ [caseD (v.2.1.1, [v.2.2])] ++ (cs.map caseD).drop (v.1 + 1) = (narC cs v.1 v.2.1 v.2.2).map caseD := by
      unfold narC
      rw [List.map_append, List.map_append, List.map_take, List.map_drop]
      rfl
    have few2 := tn.few
    refine q_if st4 (b := true) (et_to (et_test (ev_gt (ev_lenS (ev_var (i := 7)) (.inl rfl)) ev_int)) (decide_eq_true (by rw [List.length_map, List.length_cons]; omega))) (fun _ B5 H5 st5 => ?_) (fun z => nomatch z)
    refine q_setE st5 (ev_ixT (i := 0) (d := .int (v.1 : Int)) (ev_ixL (i := 0) (d := wD v) (ev_var (i := 7)) ev_int rfl) ev_int rfl) fun σ6 B6 H6 st6 => ?_
    refine q_setE st6 (ev_ixT (i := 1) (d := .int v.2.2) (ev_ixL (i := 0) (d := wD v) (ev_var (i := 7)) ev_int rfl) ev_int rfl) fun σ7 B7 H7 st7 => ?_
    refine q_setE st7 (d := casesL (narC cs v.1 v.2.1 v.2.2)) (EV.to (EO.ev (ev_cat (EO.ev (ev_cat (EV.to (EO.ev (eo_sl (ev_var (i := 1)) eo_none (eo_some (ev_var (i := 8))))) (congrArg Dt.lst (cutD_to (by omega)))) (EO.ev (eo_lst (ea_one (ev_tup (ea_cons (ev_ixT (i := 0) (d := lotD v.2.1.1) (ev_ixL (i := v.1) (d := caseD v.2.1) (ev_var (i := 1)) (ev_var (i := 8)) (by rw [List.getElem?_map, hc]; rfl)) ev_int rfl) (ea_one (ev_tup (ea_one (ev_var (i := 9)))))))))) ?_))
      (EV.to (EO.ev (eo_sl (ev_var (i := 1)) (eo_some (EV.to (ev_add (ev_var (i := 8)) ev_int) (y := .int ((v.1 + 1 : Nat) : Int)) rfl)) eo_none)) (congrArg Dt.lst (cutD_from (by omega)))) ?_)) (congrArg Dt.lst nmap)) fun σ8 B8 H8 st8 => ?_
    · rw [List.length_take, lcs]
      show min _ _ + 1 ≤ _
      omega
    · rw [List.length_append, List.length_take, List.length_drop, lcs]
      show min _ _ + 1 + _ ≤ _
      omega
    have gl : ∀ c ∈ narC cs v.1 v.2.1 v.2.2, c.1.length ≤ 1000 := fun c hc => by
      have := (tn.good c hc).l.len12 tn.n2
      omega
    refine q_noF st8 (b := false) (et_to (et_or (b := false) (et_to (et_B (ev_notN (ev_var (i := 4)))) (show _ = false from rfl)) fun _ => et_to (et_test (ev_neD 2 (by decide) (ev_var (i := 5)) (ev_tup (ea_cons (ev_var (i := 8)) (ea_cons (ev_var (i := 9)) (ea_one (EVP.imp (ev_call (n, narC cs v.1 v.2.1 v.2.2) ⟨n1, hn5, by dsimp only; omega, gl⟩ (ea_cons (ev_var (i := 10)) (ea_one (ev_var (i := 3))))) fun d z => z))))) shD_why shD_why)) ?_) rfl) rfl fun B9 H9 st9 => ?_
    · dsimp only
      rw [M.m2 v hv.1 hv.2, eqv_self shD_why]
      rfl
    refine q_setE st9 (EVP.imp (ev_call ((n : Int), cs, v.1, v.2.1, v.2.2) ⟨ht, hc, hx⟩ (ea_cons (ev_var (i := 0)) (ea_cons (ev_var (i := 8)) (ea_one (ev_var (i := 9)))))) fun d z => z) fun σa Ba Ha sta => ?_
    have tr : tornR (n : Int) (narC cs v.1 v.2.1 v.2.2) = lotD (peelW (n : Int) cs v).2 := by
      unfold tornR
      refine if_neg fun z => ?_
      have h2 := hv.2
      unfold fullW at h2
      rw [decide_eq_false (by rw [show (peelW (n : Int) cs v).1.length = (n : Int).toNat from z]; exact Nat.lt_irrefl _)] at h2
      cases h2
    refine s_ret sta (EV.to (ev_andV (ev_eqD 3 (by decide) (ev_fldC (ev_var (i := 11)) T.c_told T.n_told_c) (ev_tuple (ev_var (i := 10))) shD_cases shD_cases) fun _ => ev_andV (ev_eqD 1 (by decide) (EVP.imp (ev_call ((n : Int), narC cs v.1 v.2.1 v.2.2) tn (ea_one (ev_var (i := 11)))) fun d z => z.trans tr) (ev_ixT (i := 2) (d := lotD (peelW (n : Int) cs v).2) (ev_var (i := 5)) ev_int rfl) shD_lot shD_lot) fun _ =>
      ev_eqD 3 (by decide) (ev_fldC (ev_var (i := 0)) T.c_told T.n_told_c) (ev_tuple (ev_var (i := 1))) shD_cases shD_cases) ?_) k
    rw [eqv_self (d := casesT (narC cs v.1 v.2.1 v.2.2)) (k := 3) shD_cases, eqv_self (d := lotD (peelW (n : Int) cs v).2) (k := 1) shD_lot, eqv_self (d := casesT cs) (k := 3) shD_cases]
    rfl
  | nil =>
    have hall : ∀ v ∈ wantC (enumP 0 cs), fullW (n : Int) cs v = true := fun v hv => by
      have := List.filter_eq_nil_iff.mp hl v hv
      cases q : fullW (n : Int) cs v with
      | true => rfl
      | false =>
        rw [q] at this
        exact absurd rfl this
    rw [hl, whyGo_all _ hall, ordGo_all _ _ hall] at st4
    refine q_noF st4 (b := false) (et_to (et_test (ev_gt (ev_lenS (ev_var (i := 7)) (.inl rfl)) ev_int)) rfl) rfl fun B5 H5 st5 => ?_
    refine q_noF st5 (b := false) (et_to (et_or (b := false) (et_to (et_B (ev_notN (ev_var (i := 5)))) (show _ = false from rfl)) fun _ => et_to (et_or (et_not (et_B (ev_isi (d := .tup ([] ++ (wantC (enumP 0 cs)).map fun v => lotD (peelW (n : Int) cs v).1)) (ev_var (i := 4)) (kit_tuple rfl) rfl))) fun _ => et_test (ev_neI (ev_lenS (ev_var (i := 4)) (.inr rfl)) (ev_lenS (ev_var (i := 6)) (.inl rfl)))) ?_) rfl) rfl fun B6 H6 st6 => ?_
    · rw [List.nil_append, List.length_map, List.length_map, decide_eq_true rfl]
      rfl
    refine q_for Dt.int (fun x => [(12, .int x)]) (upto (wantC (enumP 0 cs)).length) st6 (ei_to (ei_rng1 (n := (wantC (enumP 0 cs)).length) (EV.to (ev_lenS (ev_var (i := 6)) (.inl rfl)) (by rw [List.length_map])) (by omega)) rangeD0) (fun _ _ => eg_name)
      (fun i ρ' => ρ' = [.dat (toldD K (n : Int) cs), .dat (casesL cs), .dat (.lst ((fitsL n cs).map lotD)), .dat (.int (n : Int)), .dat (.tup ([] ++ (wantC (enumP 0 cs)).map fun v => lotD (peelW (n : Int) cs v).1)), .dat .non, .dat (.lst ((wantC (enumP 0 cs)).map wD)), .dat (.lst (List.map wD [])), .any, .any, .any, .any, .any]) rfl ?_ ?_
    · rintro Bj i x ρ' σ' B7 H7 hx rfl st7
      have hi : i < (wantC (enumP 0 cs)).length := by
        have := (List.getElem?_eq_some_iff.mp hx).1
        rwa [upto_len] at this
      rw [upto_get hi] at hx
      cases hx
      have hv : (wantC (enumP 0 cs))[i]? = some (wantC (enumP 0 cs))[i] := List.getElem?_eq_getElem hi
      generalize (wantC (enumP 0 cs))[i] = v at hv
      have hvm := List.mem_of_getElem? hv
      obtain ⟨hc, hxv⟩ := want_mem hvm
      obtain ⟨m3a, m3b⟩ := M.m3 v hvm (hall v hvm)
      have ev1 : ([] ++ (wantC (enumP 0 cs)).map fun v => lotD (peelW (n : Int) cs v).1)[i]? = some (lotD (peelW (n : Int) cs v).1) := by
        rw [List.nil_append, List.getElem?_map, hv]
        rfl
      have ev2 : ((wantC (enumP 0 cs)).map wD)[i]? = some (wD v) := by
        rw [List.getElem?_map, hv]
        rfl
      have pl : (peelW (n : Int) cs v).1.length ≤ 1000 := by
        have := ordS_len (List.mem_filter.mp m3a).1
        omega
      refine q_noF st7 (b := false) (et_to (et_not (et_B (EVP.imp (ev_call ((peelW (n : Int) cs v).1, (n : Int), fitsL n cs) pl (ea_cons (ev_ixT (i := i) (ev_var (i := 4)) (ev_var (i := 12)) ev1) (ea_cons (ev_var (i := 3)) (ea_one (ev_var (i := 2)))))) fun d z => z))) (by dsimp only; rw [decide_eq_true m3a]; rfl)) rfl fun B8 H8 st8 => ?_
      refine s_if st8 (b := false) (et_to (et_test (ev_neI (i := firstOf (peelW (n : Int) cs v).1 v.2.1.1) (j := v.2.2) (EVP.imp (ev_call ((peelW (n : Int) cs v).1, v.2.1.1) trivial (ea_cons (ev_ixT (i := i) (ev_var (i := 4)) (ev_var (i := 12)) ev1) (ea_one (ev_ixT (i := 0) (d := lotD v.2.1.1) (ev_ixL (i := v.1) (d := caseD v.2.1) (ev_var (i := 1)) (ev_ixT (i := 0) (d := .int (v.1 : Int)) (ev_ixL (i := i) (d := wD v) (ev_var (i := 6)) (ev_var (i := 12)) ev2) ev_int rfl) (by rw [List.getElem?_map, hc]; rfl)) ev_int rfl)))) fun d z => z)
        (ev_ixT (i := 1) (d := .int v.2.2) (ev_ixL (i := i) (d := wD v) (ev_var (i := 6)) (ev_var (i := 12)) ev2) ev_int rfl))) (by rw [m3b, decide_eq_true rfl]; rfl)) (fun z => nomatch z) fun _ B9 H9 st9 => ⟨_, B9, rfl, st9.weak (.same (.same (.same (.same (.same (.same (.same (.same (.any (.any (.any (.any (.any .nil)))))))))))))⟩
    · rintro ρ' σ' B7 H7 rfl st7
      exact s_ret st7 ev_bl fun v d B8 H8 p g hv => k v d B8 H8 p g hv
end
end K37
/-! K37L: the law's body -/
namespace K37
open PySem PyProof.Rows L2
open Evl (Ex)
section
variable {D : Option Addr} {B0 H0 Bk B H : Hp} {ρ : List Sl} {σ : L2.St} {te ta tb : TE} {tu tz : TS} {Dn : Ends} {P : Dt → Prop} {PI PJ : Int → Prop} {d : Dt} {K : PySem.W.Frag}
/-- a for over one of several lists -/
theorem s_forP {α : Type} {wi : TI} {g : TG} (f : α → Dt) (l : α → List (Nat × Dt)) (Pd : List α → Prop) (s : Sta D B0 H0 Bk ρ σ B H) (hi : EIP D wi ρ (fun ds => ∃ as, Pd as ∧ ds = as.map f)) (hg : ∀ as, Pd as → ∀ a ∈ as, EG g (f a) (l a)) (Inv : List α → Nat → List Sl → Prop) (h0 : ∀ as, Pd as → Inv as 0 ρ)
    (hs : ∀ as, Pd as → ∀ Bj i a ρ' σ' B' H', as[i]? = some a → Inv as i ρ' → Sta D B0 H0 Bj (setR ρ' (l a)) σ' B' H' → tu { Dn with nx := NX D B0 H0 Bj (Inv as (i + 1)), ct := NX D B0 H0 Bj (Inv as (i + 1)), bk := Dn.nx } σ' H')
    (hd : ∀ as, Pd as → ∀ ρ' σ' B' H', Inv as as.length ρ' → Sta D B0 H0 Bk ρ' σ' B' H' → Dn.nx σ' H') : tFor wi g tu Dn σ H := by
  refine hi σ B H s.rl _ fun J ds B1 H1 pd g1 w => ?_
  obtain ⟨as, pa, rfl⟩ := pd
  have hlen : (as.map f).length = as.length := List.length_map ..
  have s1 := s.go g1
  have wk : Walk J as.length (fun H' => ∃ B', Ex B1 B' ∧ Ex B' H') (fun i H' x H2 => J.yld i H' x H2) :=
    ⟨fun i H' hi ⟨B', e1, e2⟩ => w.goes i H' (by rw [hlen]; exact hi) (e1.trans e2), fun H' ⟨B', e1, e2⟩ => by
      have := w.stops H' (e1.trans e2)
      rw [hlen] at this
      exact this, fun i H' x H2 _ _ y => y⟩
  refine for_it wk (fun i => NX D B0 H0 B1 (Inv as i)) ⟨ρ, B1, h0 as pa, ⟨s1.gr, s1.rl, Ex.refl B1, s1.fr, s1.dis⟩⟩ (fun i σ' H' _ ⟨ρ', B', _, st⟩ => ⟨B', st.kb, st.rl.ex⟩) ?_ ?_
  · rintro i x σ' H2 H3 hi ⟨ρ', B2, inv, st⟩ y
    obtain ⟨d, B3, q3, g3, hd⟩ := w.yields i B2 H2 x H3 (by rw [hlen]; exact hi) st.kb st.rl.ex y
    have ha : as[i]? = some as[i] := List.getElem?_eq_getElem hi
    have ed : f as[i] = d := by
      rw [List.getElem?_map, ha] at q3
      exact Option.some.inj q3
    subst ed
    have st3 := st.go (g3 D)
    exact hg as pa _ (List.getElem_mem hi) σ' B3 H3 x (g3 D).i hd _ fun us hu => hs as pa B1 i _ ρ' _ B3 H3 ha inv (st3.sets hu)
  · rintro σ' H2 ⟨ρ', B2, inv, st⟩
    exact hd as pa ρ' σ' B2 H2 inv (st.base s1.kb)
theorem q_forP {α : Type} {wi : TI} {g : TG} (f : α → Dt) (l : α → List (Nat × Dt)) (Pd : List α → Prop) (s : Sta D B0 H0 Bk ρ σ B H) (hi : EIP D wi ρ (fun ds => ∃ as, Pd as ∧ ds = as.map f)) (hg : ∀ as, Pd as → ∀ a ∈ as, EG g (f a) (l a)) (Inv : List α → Nat → List Sl → Prop) (h0 : ∀ as, Pd as → Inv as 0 ρ)
    (hs : ∀ as, Pd as → ∀ Bj i a ρ' σ' B' H', as[i]? = some a → Inv as i ρ' → Sta D B0 H0 Bj (setR ρ' (l a)) σ' B' H' → tu { Dn with nx := NX D B0 H0 Bj (Inv as (i + 1)), ct := NX D B0 H0 Bj (Inv as (i + 1)), bk := tz Dn } σ' H')
    (hd : ∀ as, Pd as → ∀ ρ' σ' B' H', Inv as as.length ρ' → Sta D B0 H0 Bk ρ' σ' B' H' → tz Dn σ' H') : tSeq (tFor wi g tu) tz Dn σ H := s_forP (Dn := { Dn with nx := tz Dn }) f l Pd s hi hg Inv h0 hs hd
/-! ### ints that are not told -/
abbrev EVI (D : Option Addr) (te : TE) (ρ : List Sl) (PI : Int → Prop) : Prop := EVP D te ρ (fun d => ∃ i, PI i ∧ d = .int i)
theorem evi_op {g : Int → Int → Int} (ha : EVI D ta ρ PI) (hb : EVI D tb ρ PJ) : EVI D (tOp (rI0 fun i j => .int (g i j)) ta tb) ρ (fun k => ∃ i j, PI i ∧ PJ j ∧ k = g i j) := evp_op ha hb fun x y ⟨i, pi, ex⟩ ⟨j, pj, ey⟩ => by
  subst ex ey
  exact fun v w B H e hd hx hy Q q => rd_I0 (g := fun i j => V.int (g i j)) (z := .int (g i j)) (fun _ => rfl) v w B H e hd hx hy Q fun u d B2 H2 p => q u d B2 H2 ⟨_, ⟨i, j, pi, pj, rfl⟩, p⟩
theorem evi_opC {C : Int → Int → Prop} {g : Int → Int → Int} (ha : EVI D ta ρ PI) (hb : EVI D tb ρ PJ) (hc : ∀ i j, PI i → PJ j → C i j) : EVI D (tOp (rI C fun i j => .int (g i j)) ta tb) ρ (fun k => ∃ i j, PI i ∧ PJ j ∧ k = g i j) := evp_op ha hb fun x y ⟨i, pi, ex⟩ ⟨j, pj, ey⟩ => by
  subst ex ey
  exact fun v w B H e hd hx hy Q q => rd_I (C := C) (g := fun i j => V.int (g i j)) (z := .int (g i j)) (hc i j pi pj) (fun _ => rfl) v w B H e hd hx hy Q fun u d B2 H2 p => q u d B2 H2 ⟨_, ⟨i, j, pi, pj, rfl⟩, p⟩
theorem evi_of {i : Int} (h : EV D te ρ (.int i)) : EVI D te ρ (fun k => k = i) := EVP.imp h fun d e => ⟨i, rfl, e⟩
theorem evi_int1 (h : EVI D te ρ PI) : EVI D (tCB (fun xs H Q => (∃ i, xs = [.int i] ∧ Q (.int i) H) ∨ ∃ k, xs = [.bl k] ∧ Q (.int (if k then 1 else 0)) H) (tCons te tNil)) ρ PI := fun σ B H l Q q => h σ B H l _ fun v d B1 H1 ⟨i, pi, e⟩ g hv => by
  subst e
  exact .inl ⟨i, by rw [show v = .int i from hv], q _ _ B1 H1 ⟨i, pi, rfl⟩ g rfl⟩
theorem evp_andB {c : Bool} (ha : EVP D ta ρ (fun d => ∃ b : Bool, True ∧ d = .bl b)) (hb : EV D tb ρ (.bl c)) : EVP D (tAndV ta tb) ρ (fun d => ∃ b : Bool, (b = true → c = true) ∧ d = .bl b) := fun σ B H l Q q => ha σ B H l _ fun v x B1 H1 ⟨b, _, ex⟩ g1 hv => by
  subst ex
  refine ⟨b, hv, ?_⟩
  cases b with
  | true =>
    show tb σ H1 Q
    exact hb σ B1 H1 (l.gr g1) Q fun v2 d B2 H2 pc g2 h2 => q v2 d B2 H2 ⟨c, fun h => h, pc⟩ (g1.trans g2) h2
  | false => exact q (.bl false) _ B1 H1 ⟨false, fun h => (nomatch h), rfl⟩ g1 rfl
end
theorem drop_ne : ∀ n, 1 ≤ n → n ≤ 5 → ∀ A ∈ (allLots n).drop 1, A ≠ [] := by
  have key : ∀ n, 1 ≤ n → n ≤ 5 → (((allLots n).drop 1).all fun A => !A.isEmpty) = true := by
    intro n h1 h2
    match n, h1, h2 with
    | 1, _, _ => decide +kernel
    | 2, _, _ => decide +kernel
    | 3, _, _ => decide +kernel
    | 4, _, _ => decide +kernel
    | 5, _, _ => decide +kernel
  intro n h1 h2 A hA e
  have := List.all_eq_true.mp (key n h1 h2) A hA
  rw [e] at this
  cases this
theorem lots_pos : ∀ n, 1 ≤ n → n ≤ 5 → 1 ≤ (allLots n).length := by
  intro n h1 h2
  match n, h1, h2 with
  | 1, _, _ => decide +kernel
  | 2, _, _ => decide +kernel
  | 3, _, _ => decide +kernel
  | 4, _, _ => decide +kernel
  | 5, _, _ => decide +kernel
/-- what the law leans on in plain mathematics -/
structure Plain : Prop where
  mth : ∀ (n : Nat) (cs : List Case), n ≤ 5 → ToldOk (n : Int) cs → Mth n cs
  tbl : ∀ (n : Nat) (cs : List Case), n ≤ 4 → TblOk n cs → (!brkB "heritage" cs && !brkB "outcast" cs) = decide (lackL cs (fitsL n cs) = [])
  ord : ∀ (n : Nat) (o : List Int), 1 ≤ n → o ∈ allOrd n → Ord (n : Int) o
theorem first_in {n : Int} {o A : List Int} (ho : Ord n o) (hA : Lot n A) (ne : A ≠ []) : firstOf o A ∈ A := by
  unfold firstOf
  cases q : o.find? (fun x => decide (x ∈ A)) with
  | some x =>
    have h : decide (x ∈ A) = true := List.find?_some (p := fun x => decide (x ∈ A)) q
    exact of_decide_eq_true h
  | none =>
    have := List.find?_eq_none.mp q
    cases A with
    | nil => exact absurd rfl ne
    | cons a A => exact absurd (decide_eq_true List.mem_cons_self) (this a ((ho.all a).mpr (hA.bd a List.mem_cons_self)))
theorem made_good {n : Int} {os Ls : List (List Int)} (h1 : os ≠ []) (h2 : ∀ o ∈ os, Ord n o) (h3 : ∀ A ∈ Ls, Lot n A ∧ A ≠ []) : ∀ c ∈ madeL os Ls, GoodC n c := fun c hc => by
  obtain ⟨A, hA, rfl⟩ := List.mem_map.mp hc
  have hA' := h3 A hA
  refine ⟨hA'.1, hA'.1.filter _, fun z => ?_, fun x hx => (List.mem_filter.mp hx).1⟩
  cases os with
  | nil => exact absurd rfl h1
  | cons o os =>
    have m := first_in (h2 o List.mem_cons_self) hA'.1 hA'.2
    have := List.filter_eq_nil_iff.mp z _ m
    rw [decide_eq_true_iff] at this
    exact this (List.mem_map_of_mem List.mem_cons_self)
theorem made_fst (os Ls : List (List Int)) : (madeL os Ls).map (·.1) = Ls := by
  unfold madeL
  rw [List.map_map]
  exact List.map_id' _
theorem hand_ent {n : Int} {c : Case} (h : GoodC n c) : EntD n (handC c) c :=
  ⟨_, _, c.1.reverse, c.2.reverse, .inl rfl, ⟨.inl rfl, List.reverse_perm _, h.l, h.ne1⟩, ⟨.inl rfl, List.reverse_perm _, h.a, h.ne⟩⟩
theorem hand_in {n : Int} {cs : List Case} (h : ∀ c ∈ cs, GoodC n c) (few : cs.length ≤ 80) : ToldIn n (.lst (cs.map handC)) (cs.map fun c => (handC c, c)) := by
  refine ⟨.inl (by rw [List.map_map]; rfl), fun p hp => ?_, by rw [List.length_map]; exact few⟩
  obtain ⟨c, hc, rfl⟩ := List.mem_map.mp hp
  exact ⟨hand_ent (h c hc), h c hc⟩
theorem hand_snd (cs : List Case) : (cs.map fun c => (handC c, c)).map (·.2) = cs := by
  rw [List.map_map]
  exact List.map_id' _
/-- the law: from a script, True -/
def spLaw (K : PySem.W.Frag) : Sp := fun vs H Q _ => ∃ (a : Addr) (ns : List Int), vs = [.ref a] ∧ SqL K H a (ns.map V.int) ∧ ∀ H', Q (.bl true) H'
section
variable {P : Program} {w : World} {K : PySem.W.Frag} {mg : PySem.Str → Option Value} {base : Heap}
abbrev nm_law : List PySem.Str := [("_law_script" : PySem.Str), ("_law_draws_here" : PySem.Str), ("_law_worlds" : PySem.Str), ("_law_whole" : PySem.Str), ("_law_every_order" : PySem.Str), ("_law_orders_here" : PySem.Str), ("_law_turn" : PySem.Str), ("_law_lots_here" : PySem.Str), ("_law_wild" : PySem.Str), ("_law_cases" : PySem.Str), ("_law_told" : PySem.Str), ("_law_fits" : PySem.Str), ("_law_order" : PySem.Str), ("_law_table" : PySem.Str), ("_law_same" : PySem.Str), ("_law_lot_here" : PySem.Str)]
abbrev ps_law : List PySem.Str := [("_law_script" : PySem.Str)]
theorem sc_law : FnScope nm_law ps_law (defScope st_law) := ⟨rfl, rfl, rfl, by decide +kernel, rfl, by decide +kernel, by decide +kernel⟩
/- slots: 0:_law_script 1:_law_draws_here 2:_law_worlds 3:_law_whole 4:_law_every_order 5:_law_orders_here 6:_law_turn 7:_law_lots_here 8:_law_wild 9:_law_cases 10:_law_told 11:_law_fits 12:_law_order 13:_law_table 14:_law_same 15:_law_lot_here -/
theorem ok_law {fd : FuncData} (F : FunD K "law" "law" (defArgs st_law) (defBody st_law) (defScope st_law) [] [] (He.ga K "law") fd) (T : Tx K mg) (Xe : Te K mg) (Tq : Tq K) (W : Tw K w) (M : Plain) : FnOk P w K mg base CX0 12 (He.ga K "law") fd ps_law (spLaw K) := by
  obtain ⟨fdE, FE, FEb⟩ := ok_Told___eq__ (P := P) (w := w) (base := base) T Tq
  refine FunD.ok F sc_law (fun vs H Q E h => by obtain ⟨_, _, rfl, _⟩ := h; rfl) (fun cdv A outer s H vs Q E hr h => ?_)
  obtain ⟨a0, ns, rfl, hS, k⟩ := h
  refine ⟨_, PSs.nox (pss_cons (ps_set (i := 1) sc_law.nd rfl (Or.inr rfl) (pe_callO (ok__law_draws T) (hr.mono (by decide)) (pa_cons (pv 0) pa_nil)))
      (pss_cons (ps_set (i := 2) sc_law.nd rfl (Or.inr rfl) (pe_callO (ok__law_size T) (hr.mono (by decide)) (pa_cons (pv 1) pa_nil)))
      (pss_cons (ps_set (i := 3) sc_law.nd rfl (Or.inl rfl) (pe_and (pe_cmpR op_eq (pe_callO (ok__law_take T) (hr.mono (by decide)) (pa_cons (pv 1) (pa_cons pe_int pa_nil))) pe_int (nomark _)) (pe_one (pe_cmpR op_lt (pv 2) pe_int (nomark _)))))
      (pss_cons (ps_set (i := 4) sc_law.nd rfl (Or.inl rfl) (pe_callO (ok__law_orders T) (hr.mono (by decide)) (pa_cons (pv 2) pa_nil)))
      (pss_cons (ps_set (i := 5) sc_law.nd rfl (Or.inl rfl) (pe_lst pa_nil))
      (pss_cons (ps_for PassesOwn.never rfl (pi_range1 (by rfl) T.b_range (pa_cons (pe_op op_add pe_int (pe_callO (ok__law_take T) (hr.mono (by decide)) (pa_cons (pv 1) (pa_cons pe_int pa_nil)))) pa_nil)) (pg_name (i := 6) sc_law.nd rfl (Or.inl rfl)) (pss_one (ps_expr (pe_bm PySem.F.plainAttrs_list PySem.F.slot_list_append PySem.F.type_list_append mt_append (pv 5) (pa_cons (pe_ix (ix_list_k (K := K)) (pv 4) (pe_op op_mod (pe_callTy call_int1 (by rfl) T.b_int boot_int (pa_cons (pe_op op_add (pe_op op_mul (pe_callO (ok__law_take T) (hr.mono (by decide)) (pa_cons (pv 1) (pa_cons pe_int pa_nil))) pe_int) (pe_callO (ok__law_take T) (hr.mono (by decide)) (pa_cons (pv 1) (pa_cons pe_int pa_nil)))) pa_nil)) (pe_callB (call_len_k (K := K)) (by rfl) T.b_len boot_len (pa_cons (pv 4) pa_nil))) (fun _ _ => rfl)) pa_nil)))))
      (pss_cons (ps_setLc (i := 7) (own := [("_law_turn", 6)]) rfl sc_law.nd rfl rfl (sw_true rfl rfl rfl (by decide +kernel)) (pi_range1 (by rfl) T.b_range (pa_cons (pe_callO (ok__law_take T) (hr.mono (by decide)) (pa_cons (pv 1) (pa_cons pe_int pa_nil))) pa_nil)) (blkOk_by (N := nm_law) (sc := (defScope st_law)) (by decide +kernel)) (fun _ _ _ _ _ => (pg_name (i := 6) sc_law.nd rfl (Or.inl rfl))) (fun _ _ _ _ _ => pts_nil) (fun _ _ _ _ _ => (pe_callO (ok__law_some T) (hr.mono (by decide)) (pa_cons (pv 1) (pa_cons (pv 2) pa_nil)))))
      (pss_cons (ps_if (pt_truth_k (K := K) (pv 3) (by intro _; rfl)) (pss_one (ps_set (i := 7) sc_law.nd rfl (Or.inl rfl) (pe_slice (sl_list_k (K := K)) (pe_callO (ok__law_lots T) (hr.mono (by decide)) (pa_cons (pv 2) pa_nil)) (po_some pe_int) po_none))) pss_nil)
      (pss_cons (ps_set (i := 8) sc_law.nd rfl (Or.inl rfl) (pe_ix (ix_list_k (K := K)) (pe_lst (pa_cons pe_int (pa_cons pe_int (pa_cons pe_int (pa_cons pe_int pa_nil))))) (pe_callO (ok__law_take T) (hr.mono (by decide)) (pa_cons (pv 1) (pa_cons pe_int pa_nil))) (fun _ _ => rfl)))
      (pss_cons (ps_set (i := 9) sc_law.nd rfl (Or.inr rfl) (pe_callO (ok__law_spoil T) (hr.mono (by decide)) (pa_cons (pv 1) (pa_cons (pv 2) (pa_cons (pe_callO (ok__law_made T) (hr.mono (by decide)) (pa_cons (pv 5) (pa_cons (pv 7) pa_nil))) (pa_cons (pv 8) pa_nil))))))
      (pss_cons (ps_set (i := 10) sc_law.nd rfl (Or.inl rfl) (pe_makeO_k (K := K) (ok_Told___init__ T) (hr.mono (by decide)) (pa_cons (pv 2) (pa_cons (pe_callO (ok__law_handed T) (hr.mono (by decide)) (pa_cons (pv 9) pa_nil)) pa_nil))))
      (pss_cons (ps_setLc (i := 11) (own := [("_law_order", 12)]) rfl sc_law.nd rfl rfl (sw_true rfl rfl rfl (by decide +kernel)) (pi_seq_k (K := K) (pv 4)) (blkOk_by (N := nm_law) (sc := (defScope st_law)) (by decide +kernel)) (fun _ _ _ _ _ => (pg_name (i := 12) sc_law.nd rfl (Or.inl rfl))) (fun _ _ _ _ _ => (pts_one (pt_val (pe_callO (ok__law_order_fits T) (hr.mono (by decide)) (pa_cons (pv 12) (pa_cons (pv 9) pa_nil)))))) (fun _ _ _ _ _ => (pv 12)))
      (pss_cons (ps_for PassesOwn.never rfl (pi_range1 (by rfl) T.b_range (pa_cons pe_int pa_nil)) (pg_name (i := 6) sc_law.nd rfl (Or.inl rfl)) (pss_cons (ps_set (i := 12) sc_law.nd rfl (Or.inl rfl) (pe_ix (ix_list_k (K := K)) (pv 4) (pe_op op_mod (pe_callTy call_int1 (by rfl) T.b_int boot_int (pa_cons (pe_op op_add (pe_op op_mul (pe_callO (ok__law_take T) (hr.mono (by decide)) (pa_cons (pv 1) (pa_cons pe_int pa_nil))) pe_int) (pe_callO (ok__law_take T) (hr.mono (by decide)) (pa_cons (pv 1) (pa_cons pe_int pa_nil)))) pa_nil)) (pe_callB (call_len_k (K := K)) (by rfl) T.b_len boot_len (pa_cons (pv 4) pa_nil))) (fun _ _ => rfl)))
      (pss_one (ps_if (pt_not (pt_val (pe_callO (ok__law_says T) (hr.mono (by decide)) (pa_cons (pe_callO (ok_fits_told T) (hr.mono (by decide)) (pa_cons (pe_callTy (call_list_k (K := K)) (by rfl) T.b_list boot_list (pa_cons (pv 12) pa_nil)) (pa_cons (pv 10) pa_nil))) (pa_cons (pe_cmpR (op_inD_k (K := K) (hu65_of hr)) (pv 12) (pv 11) (by rfl)) pa_nil))))) (pss_one (ps_ret pe_bl)) pss_nil))))
      (pss_cons (ps_if (PW.pt (pw_or (pt_not (pt_val (pe_callO (ok__law_judged T) (hr.mono (by decide)) (pa_cons (pv 10) (pa_cons (pv 9) (pa_cons (pv 11) (pa_cons (pv 2) pa_nil))))))) (pw_or1 (pt_not (pt_val (pe_callO (ok__law_refusals T Xe) (hr.mono (by decide)) (pa_cons (pv 1) (pa_cons (pv 2) (pa_cons (pv 9) (pa_cons (pv 10) pa_nil)))))))))) (pss_one (ps_ret pe_bl)) pss_nil)
      (pss_cons (ps_if (pt_truth_k (K := K) (pv 3) (by intro _; rfl)) (pss_cons (ps_set (i := 13) sc_law.nd rfl (Or.inl rfl) (pe_makeO_k (K := K) (ok_Table___init__ T) (hr.mono (by decide)) (pa_cons (pv 2) (pa_cons (pe_callO (ok__law_handed T) (hr.mono (by decide)) (pa_cons (pv 9) pa_nil)) pa_nil))))
      (pss_cons (ps_set (i := 14) sc_law.nd rfl (Or.inl rfl) (pe_callO (ok_told_of T) (hr.mono (by decide)) (pa_cons (pv 13) (pa_cons (pe_lc (own := [("_law_lot_here", 15)]) rfl sc_law.nd (pi_seq_k (K := K) (pv 7)) (blkOk_by (N := nm_law) (sc := (defScope st_law)) (by decide +kernel)) (fun _ _ _ _ _ => (pg_name (i := 15) sc_law.nd rfl (Or.inl rfl))) (fun _ _ _ _ _ => pts_nil) (fun _ _ _ _ _ => (pe_callTy (call_list_k (K := K)) (by rfl) T.b_list boot_list (pa_cons (pv 15) pa_nil)))) pa_nil))))
      (pss_one (ps_if (PW.pt (pw_or (pt_not (pt_cmpR (op_eqG (rcG_ins FE Tq.eqs Tq.fn FEb pass0) (hr.mono (by decide))) (pv 14) (pv 10) (nomark _))) (pw_or1 (pt_not (pt_val (pe_callO (ok__law_says T) (hr.mono (by decide)) (pa_cons (pe_callO (ok_is_kind T W) (hr.mono (by decide)) (pa_cons (pv 13) (pa_cons pe_str pa_nil))) (pa_cons (pe_cmpR op_eq (pe_callB (call_len_k (K := K)) (by rfl) T.b_len boot_len (pa_cons (pe_callO (ok__law_lacking T) (hr.mono (by decide)) (pa_cons (pv 9) (pa_cons (pv 11) pa_nil))) pa_nil)) pe_int (nomark _)) pa_nil)))))))) (pss_one (ps_ret pe_bl)) pss_nil)))) pss_nil)
      (pss_one (ps_ret (pe_cmpR (op_eqD_k (K := K) (hu64_of hr)) (pe_fld_k (K := K) (pv 10)) (pe_callTy (call_tuple_k (K := K)) (by rfl) T.b_tuple boot_tuple (pa_cons (pv 9) pa_nil)) (nomark _))))))))))))))))))), ?_⟩
  -- the draws: from here on the list of draws, at a, is the one thing that changes
  refine ⟨.ref a0, rfl, a0, ns, rfl, hS, fun a ms H hp => ?_⟩
  have ex0 : Ex (fun _ => none) H := fun _ _ e => nomatch e
  have dr : Dr a (fun _ => none) H := ⟨rfl, ms, hp⟩
  have hdr : ∀ b, some a = some b → Dr b (fun _ => none) H := fun b z => by
    cases z
    exact dr
  have st : Sta (some a) (fun _ => none) H (fun _ => none) [.any, .drw, .any, .any, .any, .any, .any, .any, .any, .any, .any, .any, .any, .any, .any, .any] ((L2.start nm_law [.ref a0]).set 1 (some (.ref a))) (fun _ => none) H := by
    refine Sta.start ex0 ⟨ex0, rfl, fun i => ?_, hdr⟩ fun i ds q => ?_
    · match i with
      | 0 => trivial
      | 1 => exact ⟨a, rfl, rfl⟩
      | i + 2 =>
        have : ([.any, .drw, .any, .any, .any, .any, .any, .any, .any, .any, .any, .any, .any, .any, .any, .any] : List Sl)[i + 2]? = (List.replicate 14 Sl.any)[i]? := rfl
        rw [this, List.getElem?_replicate]
        split <;> trivial
    · match i with
      | 0 => cases q
      | 1 => cases q
      | i + 2 =>
        have h2 : (List.replicate 14 Sl.any)[i]? = some (Sl.own ds) := q
        have := (List.mem_replicate.mp (List.mem_of_getElem? h2)).2
        cases this
  refine q_set st (ev_callD (i := 1) rfl () trivial ea_nil) fun d1 σ1 B1 H1 ⟨n, ⟨hn1, hn5⟩, ed⟩ st1 => ?_
  subst ed
  obtain ⟨of, one⟩ := ord_facts n hn1 hn5
  have ol : (allOrd n).length ≤ 120 := of_decide_eq_true (List.all_eq_true.mp of n (List.mem_range.mpr (by omega)))
  refine q_set st1 (evp_andB (c := decide ((n : Int) < 5)) (evp_eqI (evp_take (b := 3) (i := 1) rfl (by decide) ev_int) ev_int) (ev_lt (ev_var (i := 2)) ev_int)) fun d2 σ2 B2 H2 ⟨whl, hwhl, ed⟩ st2 => ?_
  subst ed
  refine q_setE st2 (EVP.imp (ev_call n ⟨hn1, hn5⟩ (ea_one (ev_var (i := 2)))) fun d z => z) fun σ3 B3 H3 st3 => ?_
  refine q_setO st3 (eo_lst ea_nil) hdr ex0 fun ds σ4 B4 H4 eds st4 => ?_
  subst eds
  -- any order of all
  have evo : ∀ (ρ : List Sl), ρ[1]? = some .drw → ρ[4]? = some (.dat (.lst ((allOrd n).map lotD))) → ∀ te, te = tOp (rI (fun _ j => 0 < j) fun i j => V.int (i % j)) (tCB (fun xs H Q => (∃ i, xs = [V.int i] ∧ Q (.int i) H) ∨ ∃ k, xs = [.bl k] ∧ Q (.int (if k then 1 else 0)) H) (tCons (tOp (rI0 fun i j => .int (i + j)) (tOp (rI CMul fun i j => .int (i * j))
      (tCall (PD (fun b : Int => 1 ≤ b) (fun b => [.int b]) (fun b d => ∃ i, (0 ≤ i ∧ i < b) ∧ d = .int i)) [] E0 (tCons (tVar 1) (tCons (tC (.int 30)) tNil))) (tC (.int 30))) (tCall (PD (fun b : Int => 1 ≤ b) (fun b => [.int b]) (fun b d => ∃ i, (0 ≤ i ∧ i < b) ∧ d = .int i)) [] E0 (tCons (tVar 1) (tCons (tC (.int 30)) tNil)))) tNil))
      (tCB (fun xs H Q => ∃ p ys, xs = [.ref p] ∧ (SqL K H p ys ∨ SqT K H p ys) ∧ Q (.int ys.length) H) (tCons (tVar 4) tNil)) →
      EVP (some a) (tOp (rIxL K) (tVar 4) te) ρ (fun d => ∃ o, o ∈ allOrd n ∧ d = lotD o) := fun ρ h1 h4 te ete => by
    subst ete
    refine evp_ixL (Pl := fun l => l = (allOrd n).map lotD) (Pi := fun i => i < (allOrd n).length) (EVP.imp (ev_var (i := 4) h4) fun d e => ⟨_, rfl, e⟩)
      (EVP.imp (evi_opC (evi_int1 (evi_op (evi_opC (evp_take (i := 1) h1 (by decide) ev_int) (evi_of ev_int) (fun i j _ hj => .inr (by rw [hj]; exact ⟨by decide, by decide⟩))) (evp_take (i := 1) h1 (by decide) ev_int))) (evi_of (ev_lenS (ev_var (i := 4) h4) (.inl rfl))) (fun i j _ hj => by rw [hj, List.length_map]; omega)) fun d ⟨r, ⟨i, j, _, hj, er⟩, ed⟩ => ?_) fun l i hl hi => ?_
    · have jp : 0 < j := by rw [hj, List.length_map]; omega
      have b1 := Int.emod_nonneg i (show j ≠ 0 by omega)
      have b2 := Int.emod_lt_of_pos i jp
      rw [hj, List.length_map] at b1 b2
      rw [hj, List.length_map] at er
      exact ⟨r.toNat, by omega, by rw [ed]; congr 1; omega⟩
    · subst hl
      exact ⟨lotD (allOrd n)[i], by rw [List.getElem?_map, List.getElem?_eq_getElem hi]; rfl, _, List.getElem_mem hi, rfl⟩
  refine q_forP Dt.int (fun x => [(6, .int x)]) (fun as => ∃ m : Nat, as = upto m ∧ 1 ≤ m ∧ m ≤ 3) st4 (fun σ B H r R q => eip_rng1 (P := fun i => 1 ≤ i ∧ i ≤ 3) (EVP.imp (evi_op (evi_of ev_int) (evp_take (b := 3) (i := 1) rfl (by decide) ev_int)) fun d ⟨r, ⟨i, j, hi, hj, er⟩, ed⟩ => ⟨r, by omega, ed⟩) (fun m hm => by omega) σ B H r R fun J ds B2 H2 ⟨i, hi, eds⟩ => q J ds B2 H2 ⟨upto i.toNat, ⟨i.toNat, rfl, by omega, by omega⟩, by rw [eds]; exact rangeD0⟩)
    (fun _ _ _ _ => eg_name) (fun as i ρ' => ∃ os : List (List Int), ρ' = [.any, .drw, .dat (.int (n : Int)), .dat (.bl whl), .dat (.lst ((allOrd n).map lotD)), .own (os.map lotD), .any, .any, .any, .any, .any, .any, .any, .any, .any, .any] ∧ os.length = i ∧ ∀ o ∈ os, o ∈ allOrd n) (fun as _ => ⟨[], rfl, rfl, fun o h => by cases h⟩) ?_ ?_
  · rintro as ⟨m, rfl, hm1, hm3⟩ Bj i x ρ' σ' B5 H5 hx ⟨os, rfl, hl, ho⟩ st5
    have hi : i < m := by
      have := (List.getElem?_eq_some_iff.mp hx).1
      rwa [upto_len] at this
    refine s_app st5 rfl (evo _ rfl rfl _ rfl) (by rw [List.length_map]; omega) fun d B6 H6 ⟨o, hoo, ed⟩ st6 => ⟨_, B6, ⟨os ++ [o], rfl, by rw [List.length_append, hl]; rfl, fun o' h' => ?_⟩, ?_⟩
    · rcases List.mem_append.mp h' with h' | h'
      · exact ho o' h'
      · have e5 : o' = o := by simpa using h'
        rw [e5]
        exact hoo
    · subst ed
      rw [List.map_append]
      exact st6.weak (.same (.same (.same (.same (.same (.same (.any (.any (.any (.any (.any (.any (.any (.any (.any (.any .nil))))))))))))))))
  rintro as ⟨m, rfl, hm1, hm3⟩ ρ' σ' B5 H5 ⟨os, rfl, hl, ho⟩ st5
  rw [upto_len] at hl
  have osne : os ≠ [] := fun z => by
    rw [z] at hl
    simp at hl
    omega
  obtain ⟨B6, st6⟩ := st5.know (i := 5) rfl
  have hn1' : 1 ≤ (n : Int) := by omega
  have hn12 : (n : Int) ≤ 12 := by omega
  have ood : ∀ o ∈ os, Ord (n : Int) o := fun o h => M.ord n o hn1 (ho o h)
  -- lots, drawn
  refine q_set st6 (P := fun d => ∃ Ls : List (List Int), (∀ A ∈ Ls, Lot (n : Int) A ∧ A ≠ []) ∧ Ls.length ≤ 6 ∧ d = .lst (Ls.map lotD)) (EVP.imp (EOP.ev (eop_lc Dt.int (fun x => [(6, .int x)]) (Pd := fun as => ∃ m : Nat, as = upto m ∧ m ≤ 6)
    (fun σ B H r R q => eip_rng1 (P := fun i => 0 ≤ i ∧ i < 7) (evp_take (b := 7) (i := 1) rfl (by decide) ev_int) (fun m hm => by omega) σ B H r R fun J ds B2 H2 ⟨i, hi, eds⟩ => q J ds B2 H2 ⟨upto i.toNat, ⟨i.toNat, rfl, by omega⟩, by rw [eds]; exact rangeD0⟩)
    (fun as ⟨m, e, hm⟩ => by rw [e, upto_len]; omega) (fun _ _ _ _ => eg_name) (by intro _ a _ _ j hj; simpa using hj) (fun as i es => ∃ Ls : List (List Int), es = Ls.map lotD ∧ Ls.length = i ∧ ∀ A ∈ Ls, Lot (n : Int) A ∧ A ≠ []) (fun as _ => ⟨[], rfl, rfl, fun A h => by cases h⟩) (fun _ _ _ b => b = true)
    (fun as i x es _ _ _ => et_yes) (fun as i x es _ _ _ h => by cases h)
    (fun as i x es _ _ ⟨Ls, he, hlen, hg⟩ _ => EVP.imp (ev_callD (i := 1) rfl n ⟨hn1, by omega⟩ (ea_one (ev_var (i := 2)))) fun d ⟨A, hA, ed⟩ => ⟨Ls ++ [A], by rw [he, ed, List.map_append]; rfl, by rw [List.length_append, hlen]; rfl, fun A' h' => by
      rcases List.mem_append.mp h' with h' | h'
      · exact hg A' h'
      · have e5 : A' = A := by simpa using h'
        rw [e5]
        exact hA⟩)
    (fun as i es ⟨Ls, he, hlen, _⟩ => by rw [he, List.length_map]; omega))) fun d ⟨ds, ⟨as, ⟨m, eas, hm⟩, Ls, he, hlen, hg⟩, ed⟩ => ⟨Ls, hg, by rw [hlen, eas, upto_len]; exact hm, by rw [ed, he]⟩) fun d7 σ7 B7 H7 ⟨Ls0, hg0, hl0, ed⟩ st7 => ?_
  subst ed
  have dropF : ∀ A ∈ (allLots n).drop 1, Lot (n : Int) A ∧ A ≠ [] := fun A hA => ⟨lots_lot n hn1 hn5 A (List.mem_of_mem_drop hA), drop_ne n hn1 hn5 A hA⟩
  have facts := lay_facts n hn1 hn5
  have llen := facts.2.2.1
  have lpos : 1 ≤ (allLots n).length := lots_pos n hn1 hn5
  refine q_ifM (fun L : { Ls : List (List Int) // (∀ A ∈ Ls, Lot (n : Int) A ∧ A ≠ []) ∧ Ls.length ≤ 32 ∧ (whl = true → Ls = (allLots n).drop 1) } => [.any, .drw, .dat (.int (n : Int)), .dat (.bl whl), .dat (.lst ((allOrd n).map lotD)), .dat (.lst (os.map lotD)), .any, .dat (.lst (L.1.map lotD)), .any, .any, .any, .any, .any, .any, .any, .any]) st7
    (et_truB (ev_var (i := 3))) (fun hb B8 H8 st8 N hN => ?_) (fun hb => ⟨⟨Ls0, hg0, by omega, fun z => by rw [hb] at z; cases z⟩, rfl⟩) fun L σ8 B8 H8 st8 => ?_
  · refine s_setE st8 (EO.ev (EO.to (eo_sl (EVP.imp (ev_call n ⟨hn1, hn5⟩ (ea_one (ev_var (i := 2)))) fun d z => z) (eo_some ev_int) eo_none) ((cutD_from (i := 1) (by rw [List.length_map]; exact lpos)).trans List.map_drop.symm))) fun σ9 B9 H9 st9 => hN ⟨(allLots n).drop 1, dropF, by rw [List.length_drop]; omega, fun _ => rfl⟩ σ9 B9 H9 st9
  obtain ⟨Ls, hg, hl32, hwl⟩ := L
  refine q_set st8 (evp_ixL (Pl := fun l => l = intsD [0, 1, 2, 0]) (Pi := fun i => i < 4) (P := fun d => ∃ i : Int, d = .int i) (EVP.imp (EO.ev (eo_lst (ea_cons ev_int (ea_cons ev_int (ea_cons ev_int (ea_one ev_int)))))) fun d e => ⟨_, rfl, e⟩) (EVP.imp (evp_take (b := 4) (i := 1) rfl (by decide) ev_int) fun d ⟨i, hi, ed⟩ => ⟨i.toNat, by omega, by rw [ed]; congr 1; omega⟩) fun l i hl hi => by
    subst hl
    exact ⟨_, List.getElem?_eq_getElem (show i < (intsD [0, 1, 2, 0]).length from hi), ⟨_, List.getElem_map ..⟩⟩) fun d9 σ9 B9 H9 ⟨wld, ed⟩ st9 => ?_
  subst ed
  have mg := made_good osne ood hg
  have mlen : (madeL os Ls).length ≤ 32 := by
    unfold madeL
    rw [List.length_map]
    exact hl32
  refine q_set st9 (ev_callD (i := 1) rfl (n, madeL os Ls, wld) ⟨hn1, by dsimp only; omega, mg, by dsimp only; omega⟩ (ea_cons (ev_var (i := 2)) (ea_cons (EVP.imp (ev_call (os, Ls) ⟨by dsimp only; omega, by dsimp only; omega, fun A hA => by have := (hg A hA).1.len12 hn12; omega⟩ (ea_cons (ev_var (i := 5)) (ea_one (ev_var (i := 7))))) fun d z => z) (ea_one (ev_var (i := 8)))))) fun d10 σ10 B10 H10 ⟨cs, ⟨hfst, hgood⟩, ed⟩ st10 => ?_
  subst ed
  dsimp only at hfst hgood
  rw [made_fst] at hfst
  have clen : cs.length ≤ 32 := by
    have := congrArg List.length hfst
    rw [List.length_map] at this
    omega
  have ht : ToldOk (n : Int) cs := ⟨hn1', hn12, hgood, by omega⟩
  have MM := M.mth n cs hn5 ht
  have sm : Small cs := ⟨by omega, fun c hc => (hgood c hc).a.len12 hn12⟩
  refine q_setE st10 (d := toldD K (n : Int) cs) (EV.to (ev_makeTold (n := (n : Int)) (e0 := .lst (cs.map handC)) (xs := cs.map fun c => (handC c, c)) hn1' hn12 (hand_in hgood (by omega)) (ea_cons (ev_var (i := 2)) (ea_one (EVP.imp (ev_call cs (by omega) (ea_one (ev_var (i := 9)))) fun d z => z)))) (by rw [hand_snd])) fun σ11 B11 H11 st11 => ?_
  refine q_setE st11 (d := .lst ((fitsL n cs).map lotD)) (EO.ev (eo_lc lotD (fun o => [(12, lotD o)]) (allOrd n) (ei_seqA (ev_var (i := 4)) (.inl rfl)) (by omega) (fun _ _ => eg_name) (by intro a _ j hj; simpa using hj) (fun o => fitsB o cs) (fun o _ => et_B (EVP.imp (ev_call (o, cs) trivial (ea_cons (ev_var (i := 12)) (ea_one (ev_var (i := 9))))) fun d z => z)) lotD (fun o _ _ => ev_var (i := 12)))) fun σ12 B12 H12 st12 => ?_
  refine q_for Dt.int (fun x => [(6, .int x)]) (upto 4) st12 (ei_to (ei_rng1 (n := 4) ev_int (by decide)) rangeD0) (fun _ _ => eg_name)
    (fun i ρ' => ρ' = [.any, .drw, .dat (.int (n : Int)), .dat (.bl whl), .dat (.lst ((allOrd n).map lotD)), .dat (.lst (os.map lotD)), .any, .dat (.lst (Ls.map lotD)), .dat (.int wld), .dat (casesL cs), .dat (toldD K (n : Int) cs), .dat (.lst ((fitsL n cs).map lotD)), .any, .any, .any, .any]) rfl ?_ ?_
  · rintro Bj i x ρ' σ' Ba Ha hx rfl sta
    refine q_set sta (evo _ rfl rfl _ rfl) fun d σb Bb Hb ⟨o, hoo, ed⟩ stb => ?_
    subst ed
    have oo := M.ord n o hn1 hoo
    have inf : decide (o ∈ fitsL n cs) = fitsB o cs := by
      rw [Bool.eq_iff_iff, decide_eq_true_iff, List.mem_filter]
      exact ⟨fun h => h.2, fun h => ⟨hoo, h⟩⟩
    refine s_if stb (b := false) (et_to (et_not (et_B (EVP.imp (ev_call (fitsB o cs, decide (o ∈ fitsL n cs)) trivial (ea_cons (EVP.imp (ev_call (.lst (intsD o), o, (n : Int), cs) ⟨.inl rfl, oo, ht⟩ (ea_cons (EO.ev (eo_list (ev_var (i := 12)) (.inr rfl))) (ea_one (ev_var (i := 10))))) fun d z => z)
      (ea_one (EV.to (ev_inD (d := lotD o) (ds := (fitsL n cs).map lotD) 1 (by decide) (ev_var (i := 12)) (ev_var (i := 11)) shD_lot (shDL_all fun d hd => by obtain ⟨A, _, rfl⟩ := List.mem_map.mp hd; exact shD_lot)) (congrArg Dt.bl (any_lots o (fitsL n cs))))))) fun d z => z))) (by dsimp only; rw [inf, decide_eq_true rfl]; rfl)) (fun z => nomatch z) fun _ Bc Hc stc => ⟨_, Bc, rfl, stc.weak (.same (.same (.same (.same (.same (.same (.any (.same (.same (.same (.same (.same (.any (.any (.any (.any .nil))))))))))))))))⟩
  · rintro ρ' σ' Ba Ha rfl sta
    refine q_noF sta (b := false) (et_to (et_or (et_not (et_B (EVP.imp (ev_call (n, cs) ⟨hn5, ht, MM⟩ (ea_cons (ev_var (i := 10)) (ea_cons (ev_var (i := 9)) (ea_cons (ev_var (i := 11)) (ea_one (ev_var (i := 2))))))) fun d z => z))) fun _ => et_not (et_B (b := true) (EVP.imp (ev_callD (i := 1) rfl (n, cs) ⟨hn5, ht⟩ (ea_cons (ev_var (i := 2)) (ea_cons (ev_var (i := 9)) (ea_one (ev_var (i := 10)))))) fun d z => z))) rfl) rfl fun Bb Hb stb => ?_
    refine q_ifM (fun _ : Unit => [.any, .drw, .dat (.int (n : Int)), .dat (.bl whl), .dat (.lst ((allOrd n).map lotD)), .dat (.lst (os.map lotD)), .any, .dat (.lst (Ls.map lotD)), .dat (.int wld), .dat (casesL cs), .dat (toldD K (n : Int) cs), .dat (.lst ((fitsL n cs).map lotD)), .any, .any, .any, .any]) stb
      (et_truB (ev_var (i := 3))) (fun hb Bc Hc stc N hN => ?_) (fun _ => ⟨(), rfl⟩) fun _ σd Bd Hd std => ?_
    · have n5 : n ≤ 4 := by
        have := of_decide_eq_true (hwhl hb)
        omega
      have hlots : cs.map (·.1) = (allLots n).drop 1 := hfst.trans (hwl hb)
      have tb : TblOk n cs := ⟨hn1, hn5, hgood, hlots⟩
      refine q_setE stc (EV.to (ev_makeTbl (n := n) (e0 := .lst (cs.map handC)) (xs := cs.map fun c => (handC c, c)) ⟨hn1, hn5, hand_in hgood (by omega), by rw [List.map_map]; exact hlots⟩ (ea_cons (ev_var (i := 2)) (ea_one (EVP.imp (ev_call cs (by omega) (ea_one (ev_var (i := 9)))) fun d z => z)))) (by rw [hand_snd])) fun σe Be He ste => ?_
      refine q_setE ste (d := toldD K (n : Int) cs) (EVP.imp (ev_call (n, cs, .lst (Ls.map fun A => .lst (intsD A)), cs) ⟨hn1, by dsimp only; omega, .inl (by rw [← hfst, List.map_map]; rfl), fun c hc => ⟨hc, hgood c hc⟩, by dsimp only; omega⟩ (ea_cons (ev_var (i := 13)) (ea_one (EO.ev (eo_lcm lotD (fun A => [(15, lotD A)]) Ls (ei_seqA (ev_var (i := 7)) (.inl rfl)) (by omega) (fun _ _ => eg_name) (by intro a _ j hj; simpa using hj) (fun A => .lst (intsD A)) (fun A _ => EO.ev (eo_list (ev_var (i := 15)) (.inr rfl)))))))) fun d z => z) fun σf Bf Hf stf => ?_
      have fl : (fitsL n cs).length ≤ 1000 := Nat.le_trans (List.length_filter_le _ _) (by omega)
      have tl := M.tbl n cs n5 tb
      refine s_if stf (b := false) (et_to (et_or (et_not (et_test (ev_eqT (ev_var (i := 14)) (ev_var (i := 10))))) fun _ => et_not (et_B (EVP.imp (ev_call (!brkB "heritage" cs && !brkB "outcast" cs, decide (((lackL cs (fitsL n cs)).length : Int) = 0)) trivial (ea_cons (EVP.imp (ev_call (n, cs) tb (ea_cons (ev_var (i := 13)) (ea_one ev_str))) fun d z => z)
        (ea_one (EV.to (ev_eqI (ev_lenS (EVP.imp (ev_call (cs, fitsL n cs) ⟨sm, fl⟩ (ea_cons (ev_var (i := 9)) (ea_one (ev_var (i := 11))))) fun d z => z) (.inl rfl)) ev_int) (by dsimp only; rw [List.length_map]))))) fun d z => z))) ?_) (fun z => nomatch z) fun _ Bg Hg stg => hN () _ Bg Hg (stg.weak (.same (.same (.same (.same (.same (.same (.same (.same (.same (.same (.same (.same (.same (.any (.any (.same .nil)))))))))))))))))
      dsimp only
      have e0 : decide (((lackL cs (fitsL n cs)).length : Int) = 0) = decide (lackL cs (fitsL n cs) = []) := decide_eq_decide.mpr (by
        constructor
        · intro h
          exact List.length_eq_zero_iff.mp (by omega)
        · intro h
          rw [h]
          rfl)
      rw [tl, e0, decide_eq_true rfl]
      rfl
    · refine s_ret std (EV.to (ev_eqD 3 (by decide) (ev_fldC (ev_var (i := 10)) T.c_told T.n_told_c) (ev_tuple (ev_var (i := 9))) shD_cases shD_cases) (by rw [eqv_self (d := casesT cs) (k := 3) shD_cases])) fun v d Be He p g hv => ?_
      subst p
      rw [show v = .bl true from hv]
      exact k He
end
end K37
/-! K37AA: the plain law: peels, torn lots, orders -/
namespace K37
open PySem PyProof.Rows L2
/-! ### lists -/
theorem lot_ext {n : Int} {A B : List Int} (hA : Lot n A) (hB : Lot n B) (h : ∀ x, x ∈ A ↔ x ∈ B) : A = B :=
  sorted_uniq ((List.perm_ext_iff_of_nodup hA.nodup hB.nodup).mpr h) hA.le hB.le
theorem mem_minus {A B : List Int} {x : Int} : x ∈ minusL A B ↔ x ∈ A ∧ x ∉ B := by
  unfold minusL
  rw [List.mem_filter]
  simp
theorem inside_iff {A B : List Int} : insideB A B = true ↔ ∀ x ∈ A, x ∈ B := by
  unfold insideB
  rw [List.all_eq_true]
  exact ⟨fun h x hx => of_decide_eq_true (h x hx), fun h x hx => decide_eq_true (h x hx)⟩
/-! ### first of an order -/
theorem first_spec {os A : List Int} {x : Int} (hx : x ∈ os) (hA : x ∈ A) : ∃ pre post, os = pre ++ firstOf os A :: post ∧ (∀ y ∈ pre, y ∉ A) ∧ firstOf os A ∈ A := by
  induction os with
  | nil => cases hx
  | cons o os ih =>
    by_cases h : o ∈ A
    · have e : firstOf (o :: os) A = o := by
        unfold firstOf
        rw [List.find?_cons, decide_eq_true h]
        rfl
      exact ⟨[], os, by rw [e]; rfl, fun y hy => (List.not_mem_nil hy).elim, by rw [e]; exact h⟩
    · have e : firstOf (o :: os) A = firstOf os A := by
        unfold firstOf
        rw [List.find?_cons, decide_eq_false h]
      have hx' : x ∈ os := by
        rcases List.mem_cons.mp hx with z | z
        · rw [z] at hA
          exact absurd hA h
        · exact z
      obtain ⟨pre, post, h1, h2, h3⟩ := ih hx'
      refine ⟨o :: pre, post, by rw [e]; exact congrArg (o :: ·) h1, fun y hy => ?_, by rw [e]; exact h3⟩
      rcases List.mem_cons.mp hy with z | z
      · rw [z]
        exact h
      · exact h2 y z
theorem first_of_pre {os A : List Int} {x : Int} {pre post : List Int} (h : os = pre ++ x :: post) (h1 : ∀ y ∈ pre, y ∉ A) (h2 : x ∈ A) : firstOf os A = x := by
  subst h
  induction pre with
  | nil =>
    unfold firstOf
    rw [List.nil_append, List.find?_cons, decide_eq_true h2]
    rfl
  | cons o pre ih =>
    have e : firstOf ((o :: pre) ++ x :: post) A = firstOf (pre ++ x :: post) A := by
      unfold firstOf
      rw [List.cons_append, List.find?_cons, decide_eq_false (h1 o List.mem_cons_self)]
    rw [e]
    exact ih fun y hy => h1 y (List.mem_cons_of_mem _ hy)
/-- the first of a larger lot, where it lies in the smaller -/
theorem first_sub {os A B : List Int} (hsub : ∀ x ∈ A, x ∈ B) (hf : firstOf os B ∈ A) (hx : firstOf os B ∈ os) : firstOf os A = firstOf os B := by
  obtain ⟨pre, post, h1, h2, h3⟩ := first_spec hx (hsub _ hf)
  exact first_of_pre h1 (fun y hy hA => h2 y hy (hsub y hA)) hf
theorem first_mem {os A : List Int} {x : Int} (hx : x ∈ os) (hA : x ∈ A) : firstOf os A ∈ os ∧ firstOf os A ∈ A := by
  obtain ⟨pre, post, h1, h2, h3⟩ := first_spec hx hA
  refine ⟨?_, h3⟩
  have : firstOf os A ∈ pre ++ firstOf os A :: post := List.mem_append.mpr (.inr List.mem_cons_self)
  rw [← h1] at this
  exact this
/-! ### torn lots -/
def Torn (cs : List Case) (A : List Int) : Prop := A ≠ [] ∧ ∀ x ∈ A, ∃ c ∈ cs, x ∈ c.1 ∧ x ∉ c.2 ∧ ∀ y ∈ c.1, y ∈ A
theorem torn_iff {cs : List Case} {A : List Int} : tornB cs A = true ↔ Torn cs A := by
  unfold tornB Torn
  rw [Bool.and_eq_true, List.all_eq_true, decide_eq_true_iff]
  have e : ∀ x, tornW cs A x = true ↔ ∃ c ∈ cs, x ∈ c.1 ∧ x ∉ c.2 ∧ ∀ y ∈ c.1, y ∈ A := fun x => by
    unfold tornW
    rw [List.any_eq_true]
    constructor
    · rintro ⟨c, hc, h⟩
      rw [Bool.and_eq_true, Bool.and_eq_true, decide_eq_true_iff, inside_iff] at h
      exact ⟨c, hc, h.1.1, by simpa using h.1.2, h.2⟩
    · rintro ⟨c, hc, h1, h2, h3⟩
      refine ⟨c, hc, ?_⟩
      rw [Bool.and_eq_true, Bool.and_eq_true, decide_eq_true_iff, inside_iff]
      exact ⟨⟨h1, by simpa using h2⟩, h3⟩
  constructor
  · rintro ⟨h1, h2⟩
    exact ⟨List.length_pos_iff.mp h2, fun x hx => (e x).mp (h1 x hx)⟩
  · rintro ⟨h1, h2⟩
    exact ⟨fun x hx => (e x).mpr (h2 x hx), List.length_pos_iff.mpr h1⟩
/-! ### the peel -/
theorem barred_iff {cs : List Case} {left : List Int} {x : Int} : x ∈ cs.flatMap (barredC left) ↔ ∃ c ∈ cs, (∀ y ∈ c.1, y ∈ left) ∧ x ∈ c.1 ∧ x ∉ c.2 := by
  rw [List.mem_flatMap]
  constructor
  · rintro ⟨c, hc, h⟩
    unfold barredC at h
    by_cases hi : insideB c.1 left = true
    · rw [if_pos hi] at h
      have := mem_minus.mp h
      exact ⟨c, hc, inside_iff.mp hi, this.1, this.2⟩
    · rw [if_neg hi] at h
      cases h
  · rintro ⟨c, hc, h1, h2, h3⟩
    refine ⟨c, hc, ?_⟩
    unfold barredC
    rw [if_pos (inside_iff.mpr h1)]
    exact mem_minus.mpr ⟨h2, h3⟩
theorem next_some {cs : List Case} {left : List Int} {x : Int} (h : nextT cs left = some x) : x ∈ left ∧ ∀ c ∈ cs, (∀ y ∈ c.1, y ∈ left) → x ∈ c.1 → x ∈ c.2 := by
  have m := mem_minus.mp (List.mem_of_head? h)
  refine ⟨m.1, fun c hc h1 h2 => ?_⟩
  by_cases q : x ∈ c.2
  · exact q
  · exact absurd (barred_iff.mpr ⟨c, hc, h1, h2, q⟩) m.2
theorem next_none {cs : List Case} {left : List Int} (h : nextT cs left = none) : ∀ x ∈ left, ∃ c ∈ cs, x ∈ c.1 ∧ x ∉ c.2 ∧ ∀ y ∈ c.1, y ∈ left := fun x hx => by
  have e : minusL left (cs.flatMap (barredC left)) = [] := List.head?_eq_none_iff.mp h
  have : x ∈ cs.flatMap (barredC left) := by
    by_cases q : x ∈ cs.flatMap (barredC left)
    · exact q
    · have := mem_minus.mpr ⟨hx, q⟩
      rw [e] at this
      cases this
  obtain ⟨c, hc, h1, h2, h3⟩ := barred_iff.mp this
  exact ⟨c, hc, h2, h3, h1⟩
/-- the peel's end: what is left is torn or nothing; it holds every torn lot; taken and left are all -/
theorem peel_end {cs : List Case} : ∀ (k : Nat) (left taken : List Int), left.Nodup → left.length ≤ k →
    (∀ x ∈ (peel cs k left taken).2, ∃ c ∈ cs, x ∈ c.1 ∧ x ∉ c.2 ∧ ∀ y ∈ c.1, y ∈ (peel cs k left taken).2) ∧ (∀ A, Torn cs A → (∀ x ∈ A, x ∈ left) → ∀ x ∈ A, x ∈ (peel cs k left taken).2) ∧
    ∃ t, (peel cs k left taken).1 = taken ++ t ∧ (t ++ (peel cs k left taken).2).Perm left ∧ (peel cs k left taken).2.Sublist left ∧ ∀ pre x post, t = pre ++ x :: post → ∀ c ∈ cs, (∀ y ∈ c.1, y ∈ left ∧ y ∉ pre) → x ∈ c.1 → x ∈ c.2
  | 0, left, taken, hd, hl => by
    have e : left = [] := List.length_eq_zero_iff.mp (by omega)
    subst e
    refine ⟨fun x hx => (List.not_mem_nil hx).elim, fun A hA hs x hx => hs x hx, [], (List.append_nil _).symm, List.Perm.refl _, List.Sublist.refl _, fun pre x post h => ?_⟩
    cases pre <;> cases h
  | k + 1, left, taken, hd, hl => by
    cases q : nextT cs left with
    | none =>
      rw [peel_done q]
      refine ⟨next_none q, fun A hA hs x hx => hs x hx, [], (List.append_nil _).symm, List.Perm.refl _, List.Sublist.refl _, fun pre x post h => ?_⟩
      cases pre <;> cases h
    | some x =>
      have e1 : peel cs (k + 1) left taken = peel cs k (minusL left [x]) (taken ++ [x]) := by
        show (match nextT cs left with | none => (taken, left) | some x => peel cs k (minusL left [x]) (taken ++ [x])) = _
        rw [q]
      obtain ⟨hx, hfree⟩ := next_some q
      have lt := minus_one hx
      have hd' : (minusL left [x]).Nodup := hd.sublist List.filter_sublist
      obtain ⟨i1, i2, t, i3, i4, i5, i6⟩ := peel_end (cs := cs) k (minusL left [x]) (taken ++ [x]) hd' (by omega)
      rw [e1]
      refine ⟨i1, fun A hA hs => i2 A hA fun y hy => ?_, x :: t, ?_, ?_, i5.trans List.filter_sublist, ?_⟩
      · refine mem_minus.mpr ⟨hs y hy, fun z => ?_⟩
        have e2 : y = x := by simpa using z
        subst e2
        obtain ⟨c, hc, h1, h2, h3⟩ := hA.2 y hy
        exact h2 (hfree c hc (fun z hz => hs z (h3 z hz)) h1)
      · rw [i3, List.append_assoc]
        rfl
      · refine List.Perm.trans (List.Perm.cons x i4) ?_
        refine (List.perm_ext_iff_of_nodup ?_ hd).mpr fun y => ?_
        · exact List.nodup_cons.mpr ⟨fun h => (mem_minus.mp h).2 List.mem_cons_self, hd'⟩
        · rw [List.mem_cons, mem_minus]
          constructor
          · rintro (h | h)
            · rw [h]
              exact hx
            · exact h.1
          · intro h
            by_cases z : y = x
            · exact .inl z
            · exact .inr ⟨h, by simpa using z⟩
      · intro pre y post h c hc hpre hy
        cases pre with
        | nil =>
          injection h with h1 h2
          subst h1
          exact hfree c hc (fun z hz => (hpre z hz).1) hy
        | cons p pre =>
          injection h with h1 h2
          subst h1
          refine i6 pre y post h2 c hc (fun z hz => ⟨mem_minus.mpr ⟨(hpre z hz).1, fun w => (hpre z hz).2 ?_⟩, fun w => (hpre z hz).2 (List.mem_cons_of_mem _ w)⟩) hy
          have e2 : z = x := by simpa using w
          rw [e2]
          exact List.mem_cons_self
end K37
/-! K37AB: the plain facts Mth -/
namespace K37
open PySem PyProof.Rows L2
/-! ### all lots, all orders -/
theorem mem_rng {lo hi x : Int} : x ∈ rng lo hi ↔ lo ≤ x ∧ x < hi := by
  unfold rng
  rw [List.mem_map]
  constructor
  · rintro ⟨i, hi', rfl⟩
    rw [List.mem_range] at hi'
    omega
  · rintro ⟨h1, h2⟩
    exact ⟨(x - lo).toNat, by rw [List.mem_range]; omega, by omega⟩
theorem lays_has {n : Nat} : ∀ (k : Nat) (A : List Int), A.length = k → Lot (n : Int) A → A ∈ lays n k
  | 0, A, hl, _ => by
    rw [List.length_eq_zero_iff.mp hl]
    exact List.mem_cons_self
  | k + 1, A, hl, h => by
    rcases List.eq_nil_or_concat A with rfl | ⟨L, x, rfl⟩
    · cases hl
    · rw [List.concat_eq_append] at hl h ⊢
      have hL : Lot (n : Int) L := ⟨h.asc.sublist (List.sublist_append_left _ _), fun y hy => h.bd y (List.mem_append.mpr (.inl hy))⟩
      have hx := h.bd x (List.mem_append.mpr (.inr List.mem_cons_self))
      refine List.mem_flatMap.mpr ⟨L, lays_has k L (by rw [List.length_append] at hl; exact Nat.succ.inj hl) hL, List.mem_map.mpr ⟨x, mem_rng.mpr ⟨?_, hx.2⟩, rfl⟩⟩
      unfold lastP
      cases q : L.getLast? with
      | none => exact hx.1
      | some y =>
        have hy : y ∈ L := List.mem_of_getLast? q
        have := (List.pairwise_append.mp h.asc).2.2 y hy x List.mem_cons_self
        show y + 1 ≤ x
        omega
theorem lots_has {n : Nat} {A : List Int} (h : Lot (n : Int) A) : A ∈ allLots n := by
  have len : A.length ≤ n := nodup_len n A h.nodup h.bd
  exact List.mem_flatMap.mpr ⟨A.length, List.mem_range.mpr (by omega), lays_has _ A rfl h⟩
theorem ordS_iff {n : Nat} : ∀ (k : Nat) (o : List Int), o ∈ ordS n k ↔ o.length = k ∧ o.Nodup ∧ ∀ x ∈ o, 0 ≤ x ∧ x < (n : Int)
  | 0, o => by
    constructor
    · intro h
      have e : o = [] := by simpa [ordS] using h
      rw [e]
      exact ⟨rfl, List.nodup_nil, fun x hx => (List.not_mem_nil hx).elim⟩
    · rintro ⟨h, _⟩
      rw [List.length_eq_zero_iff.mp h]
      exact List.mem_cons_self
  | k + 1, o => by
    have key : o ∈ ordS n (k + 1) ↔ ∃ p ∈ ordS n k, ∃ x, (0 ≤ x ∧ x < (n : Int)) ∧ x ∉ p ∧ o = p ++ [x] := by
      show o ∈ (ordS n k).flatMap _ ↔ _
      rw [List.mem_flatMap]
      constructor
      · rintro ⟨p, hp, h⟩
        obtain ⟨x, hx, rfl⟩ := List.mem_map.mp h
        have := List.mem_filter.mp hx
        exact ⟨p, hp, x, mem_upto.mp this.1, by simpa using this.2, rfl⟩
      · rintro ⟨p, hp, x, hx, hn, rfl⟩
        exact ⟨p, hp, List.mem_map.mpr ⟨x, List.mem_filter.mpr ⟨mem_upto.mpr hx, by simpa using hn⟩, rfl⟩⟩
    rw [key]
    constructor
    · rintro ⟨p, hp, x, hx, hn, rfl⟩
      obtain ⟨h1, h2, h3⟩ := (ordS_iff k p).mp hp
      refine ⟨by rw [List.length_append, h1]; rfl, List.nodup_append.mpr ⟨h2, by simp, fun a ha b hb e => ?_⟩, fun y hy => ?_⟩
      · have e2 : b = x := by simpa using hb
        rw [e, e2] at ha
        exact hn ha
      · rcases List.mem_append.mp hy with h | h
        · exact h3 y h
        · have e2 : y = x := by simpa using h
          rw [e2]
          exact hx
    · rintro ⟨h1, h2, h3⟩
      rcases List.eq_nil_or_concat o with rfl | ⟨p, x, rfl⟩
      · cases h1
      · rw [List.concat_eq_append] at h1 h2 h3 ⊢
        have nd := List.nodup_append.mp h2
        refine ⟨p, (ordS_iff k p).mpr ⟨by rw [List.length_append] at h1; exact Nat.succ.inj h1, nd.1, fun y hy => h3 y (List.mem_append.mpr (.inl hy))⟩, x, h3 x (List.mem_append.mpr (.inr List.mem_cons_self)), fun hx => nd.2.2 x hx x List.mem_cons_self rfl, rfl⟩
theorem allOrd_iff {n : Nat} {o : List Int} : o ∈ allOrd n ↔ Ord (n : Int) o := by
  unfold allOrd
  rw [ordS_iff]
  constructor
  · rintro ⟨h1, h2, h3⟩
    refine ⟨h2, fun x => ⟨h3 x, fun hx => ?_⟩⟩
    by_cases q : x ∈ o
    · exact q
    · have := nodup_len n (x :: o) (List.nodup_cons.mpr ⟨q, h2⟩) (fun y hy => by
        rcases List.mem_cons.mp hy with e | e
        · rw [e]
          exact hx
        · exact h3 y e)
      rw [List.length_cons, h1] at this
      omega
  · intro h
    exact ⟨by have := h.len (by omega); omega, h.nd, fun x hx => (h.all x).mp hx⟩
/-! ### the greatest torn lot -/
theorem great_fold {n : Nat} {cs : List Case} : ∀ (Ls : List (List Int)) (t : List Int), Lot (n : Int) t → (∀ A ∈ Ls, Lot (n : Int) A) →
    Lot (n : Int) (Ls.foldl (fun t A => if tornB cs A then unionL n t A else t) t) ∧ ∀ x, x ∈ Ls.foldl (fun t A => if tornB cs A then unionL n t A else t) t ↔ x ∈ t ∨ ∃ A ∈ Ls, Torn cs A ∧ x ∈ A
  | [], t, ht, _ => ⟨ht, fun x => ⟨fun h => .inl h, fun h => h.resolve_right fun ⟨A, hA, _⟩ => (List.not_mem_nil hA).elim⟩⟩
  | A :: Ls, t, ht, hL => by
    have hA := hL A List.mem_cons_self
    have hL' : ∀ B ∈ Ls, Lot (n : Int) B := fun B hB => hL B (List.mem_cons_of_mem _ hB)
    show Lot (n : Int) (Ls.foldl _ (if tornB cs A then unionL n t A else t)) ∧ ∀ x, x ∈ Ls.foldl _ (if tornB cs A then unionL n t A else t) ↔ _
    by_cases q : tornB cs A = true
    · rw [if_pos q]
      obtain ⟨i1, i2⟩ := great_fold (cs := cs) Ls (unionL n t A) lot_union hL'
      refine ⟨i1, fun x => ?_⟩
      rw [i2 x]
      have hu : x ∈ unionL n t A ↔ x ∈ t ∨ x ∈ A := by
        unfold unionL
        rw [List.mem_filter, mem_upto, Bool.or_eq_true, decide_eq_true_iff, decide_eq_true_iff]
        exact ⟨fun h => h.2, fun h => ⟨h.elim (ht.bd x) (hA.bd x), h⟩⟩
      rw [hu]
      constructor
      · rintro ((h | h) | ⟨B, hB, h⟩)
        · exact .inl h
        · exact .inr ⟨A, List.mem_cons_self, torn_iff.mp q, h⟩
        · exact .inr ⟨B, List.mem_cons_of_mem _ hB, h⟩
      · rintro (h | ⟨B, hB, h1, h2⟩)
        · exact .inl (.inl h)
        · rcases List.mem_cons.mp hB with e | e
          · rw [e] at h2
            exact .inl (.inr h2)
          · exact .inr ⟨B, e, h1, h2⟩
    · rw [if_neg q]
      obtain ⟨i1, i2⟩ := great_fold (cs := cs) Ls t ht hL'
      refine ⟨i1, fun x => ?_⟩
      rw [i2 x]
      constructor
      · rintro (h | ⟨B, hB, h⟩)
        · exact .inl h
        · exact .inr ⟨B, List.mem_cons_of_mem _ hB, h⟩
      · rintro (h | ⟨B, hB, h1, h2⟩)
        · exact .inl h
        · rcases List.mem_cons.mp hB with e | e
          · rw [e] at h1
            exact absurd (torn_iff.mpr h1) q
          · exact .inr ⟨B, e, h1, h2⟩
/-! ### the whole peel -/
structure PeelEnd (n : Nat) (cs : List Case) : Prop where
  left : Lot (n : Int) (peelN (n : Int) cs).2
  torn : ∀ x ∈ (peelN (n : Int) cs).2, ∃ c ∈ cs, x ∈ c.1 ∧ x ∉ c.2 ∧ ∀ y ∈ c.1, y ∈ (peelN (n : Int) cs).2
  great : ∀ A, Torn cs A → Lot (n : Int) A → ∀ x ∈ A, x ∈ (peelN (n : Int) cs).2
  perm : ((peelN (n : Int) cs).1 ++ (peelN (n : Int) cs).2).Perm (upto n)
  fit : ∀ pre x post, (peelN (n : Int) cs).1 = pre ++ x :: post → ∀ c ∈ cs, (∀ y ∈ c.1, (0 ≤ y ∧ y < (n : Int)) ∧ y ∉ pre) → x ∈ c.1 → x ∈ c.2
theorem peel_all (n : Nat) (cs : List Case) : PeelEnd n cs := by
  have lu : Lot (n : Int) (upto n) := by
    have := lot_upto (n := (n : Int)) (by omega)
    rwa [Int.toNat_natCast] at this
  have e : peelN (n : Int) cs = peel cs n (upto n) [] := by
    show peel cs (n : Int).toNat (upto (n : Int).toNat) [] = _
    rw [Int.toNat_natCast]
  obtain ⟨h1, h2, t, h3, h4, h5, h6⟩ := peel_end (cs := cs) n (upto n) [] upto_nodup (by rw [upto_len]; exact Nat.le_refl _)
  rw [List.nil_append] at h3
  rw [← h3] at h4 h6
  refine ⟨?_, ?_, ?_, ?_, ?_⟩ <;> rw [e]
  · exact ⟨lu.asc.sublist h5, fun x hx => lu.bd x (h5.subset hx)⟩
  · exact h1
  · exact fun A hA hl => h2 A hA fun x hx => mem_upto.mpr (hl.bd x hx)
  · exact h4
  · exact fun pre x post h c hc hp => h6 pre x post h c hc fun y hy => ⟨mem_upto.mpr (hp y hy).1, (hp y hy).2⟩
theorem great_left {n : Nat} (hn1 : 1 ≤ n) (hn5 : n ≤ 5) (cs : List Case) : (peelN (n : Int) cs).2 = greatT n cs := by
  have P := peel_all n cs
  obtain ⟨g1, g2⟩ := great_fold (n := n) (cs := cs) (allLots n) [] ⟨.nil, fun x hx => (List.not_mem_nil hx).elim⟩ (lots_lot n hn1 hn5)
  refine lot_ext P.left g1 fun x => ?_
  refine Iff.trans ?_ (g2 x).symm
  constructor
  · intro hx
    exact .inr ⟨_, lots_has P.left, ⟨fun z => by rw [z] at hx; exact List.not_mem_nil hx, P.torn⟩, hx⟩
  · rintro (h | ⟨A, hA, h1, h2⟩)
    · exact (List.not_mem_nil h).elim
    · exact P.great A h1 (lots_lot n hn1 hn5 A hA) x h2
/-- full: nothing is left -/
theorem full_iff {n : Nat} {cs : List Case} : (peelN (n : Int) cs).1.length < (n : Int).toNat ↔ (peelN (n : Int) cs).2 ≠ [] := by
  have h := (peel_all n cs).perm.length_eq
  rw [List.length_append, upto_len] at h
  rw [Int.toNat_natCast]
  constructor
  · intro l z
    rw [z] at h
    simp at h
    omega
  · intro z
    have := List.length_pos_iff.mpr z
    omega
/-- an order of all worlds that fits leaves nothing -/
theorem fit_full {n : Nat} {cs : List Case} {o : List Int} (ho : Ord (n : Int) o) (hf : ∀ c ∈ cs, firstOf o c.1 ∈ c.2) : (peelN (n : Int) cs).2 = [] := by
  have P := peel_all n cs
  cases q : (peelN (n : Int) cs).2 with
  | nil => rfl
  | cons a l =>
    exfalso
    have ha : a ∈ (peelN (n : Int) cs).2 := by rw [q]; exact List.mem_cons_self
    obtain ⟨m1, m2⟩ := first_mem ((ho.all a).mpr (P.left.bd a ha)) ha
    obtain ⟨c, hc, h1, h2, h3⟩ := P.torn _ m2
    have e := first_sub (A := c.1) (B := (peelN (n : Int) cs).2) h3 h1 m1
    have := hf c hc
    rw [e] at this
    exact h2 this
/-- nothing left: what is taken is an order that fits -/
theorem full_fit {n : Nat} {cs : List Case} (hg : ∀ c ∈ cs, GoodC (n : Int) c) (h : (peelN (n : Int) cs).2 = []) : Ord (n : Int) (peelN (n : Int) cs).1 ∧ ∀ c ∈ cs, firstOf (peelN (n : Int) cs).1 c.1 ∈ c.2 := by
  have P := peel_all n cs
  have hp := P.perm
  rw [h, List.append_nil] at hp
  have ho : Ord (n : Int) (peelN (n : Int) cs).1 := ⟨hp.nodup_iff.mpr upto_nodup, fun x => by rw [hp.mem_iff, mem_upto]⟩
  refine ⟨ho, fun c hc => ?_⟩
  have gc := hg c hc
  cases q : c.1 with
  | nil => exact absurd q gc.ne1
  | cons a l =>
    have ha : a ∈ c.1 := by rw [q]; exact List.mem_cons_self
    obtain ⟨pre, post, h1, h2, h3⟩ := first_spec ((ho.all a).mpr (gc.l.bd a ha)) ha
    rw [← q]
    exact P.fit pre _ post h1 c hc (fun y hy => ⟨gc.l.bd y hy, fun hpre => h2 y hpre hy⟩) h3
theorem fits_iff {o : List Int} {cs : List Case} : fitsB o cs = true ↔ ∀ c ∈ cs, firstOf o c.1 ∈ c.2 := by
  unfold fitsB
  rw [List.all_eq_true]
  exact ⟨fun h c hc => of_decide_eq_true (h c hc), fun h c hc => decide_eq_true (h c hc)⟩
theorem fitsL_iff {n : Nat} {o : List Int} {cs : List Case} : o ∈ fitsL n cs ↔ Ord (n : Int) o ∧ ∀ c ∈ cs, firstOf o c.1 ∈ c.2 := by
  rw [List.mem_filter, allOrd_iff, fits_iff]
theorem nar_mem {cs : List Case} {i : Nat} {c d : Case} {x : Int} (hc : cs[i]? = some c) : d ∈ narC cs i c x ↔ d = (c.1, [x]) ∨ ∃ j, j ≠ i ∧ cs[j]? = some d := by
  have hi : i < cs.length := (List.getElem?_eq_some_iff.mp hc).1
  unfold narC
  rw [List.mem_append, List.mem_append, List.mem_singleton]
  constructor
  · rintro ((h | h) | h)
    · obtain ⟨j, hj⟩ := List.mem_iff_getElem?.mp h
      rw [List.getElem?_take] at hj
      by_cases q : j < i
      · rw [if_pos q] at hj
        exact .inr ⟨j, by omega, hj⟩
      · rw [if_neg q] at hj
        cases hj
    · exact .inl h
    · obtain ⟨j, hj⟩ := List.mem_iff_getElem?.mp h
      rw [List.getElem?_drop] at hj
      exact .inr ⟨i + 1 + j, by omega, hj⟩
  · rintro (h | ⟨j, hj, h⟩)
    · exact .inl (.inr h)
    · by_cases q : j < i
      · refine .inl (.inl (List.mem_of_getElem? (i := j) ?_))
        rw [List.getElem?_take, if_pos q]
        exact h
      · refine .inr (List.mem_of_getElem? (i := j - (i + 1)) ?_)
        rw [List.getElem?_drop]
        have e : i + 1 + (j - (i + 1)) = j := by omega
        rw [e]
        exact h
theorem full_eq {n : Nat} {cs : List Case} {v : Want} : fullW (n : Int) cs v = true ↔ (peelW (n : Int) cs v).2 = [] := by
  unfold fullW
  rw [Bool.not_eq_true', decide_eq_false_iff_not]
  have := full_iff (n := n) (cs := narC cs v.1 v.2.1 v.2.2)
  rw [this, Decidable.not_not]
theorem mth_holds (n : Nat) (cs : List Case) (hn5 : n ≤ 5) (ht : ToldOk (n : Int) cs) : Mth n cs := by
  have hn1 : 1 ≤ n := by have := ht.n1; omega
  -- full: the taken fits all, its first of the case is the world
  have good : ∀ v ∈ wantC (enumP 0 cs), fullW (n : Int) cs v = true → (peelW (n : Int) cs v).1 ∈ fitsL n cs ∧ firstOf (peelW (n : Int) cs v).1 v.2.1.1 = v.2.2 := fun v hv hf => by
    obtain ⟨hc, hx⟩ := want_mem hv
    have tn := narC_ok ht hc hx
    obtain ⟨ho, hfit⟩ := full_fit (n := n) tn.good (full_eq.mp hf)
    have e : firstOf (peelW (n : Int) cs v).1 v.2.1.1 = v.2.2 := by
      have := hfit (v.2.1.1, [v.2.2]) ((nar_mem hc).mpr (.inl rfl))
      simpa using this
    refine ⟨fitsL_iff.mpr ⟨ho, fun c hcm => ?_⟩, e⟩
    obtain ⟨j, hj⟩ := List.mem_iff_getElem?.mp hcm
    by_cases q : j = v.1
    · rw [q, hc] at hj
      cases hj
      rw [e]
      exact hx
    · exact hfit c ((nar_mem hc).mpr (.inr ⟨j, q, hj⟩))
  refine ⟨fun v hv => ?_, fun v hv _ => great_left hn1 hn5 _, good⟩
  obtain ⟨hc, hx⟩ := want_mem hv
  rw [Bool.eq_iff_iff, decide_eq_true_iff]
  constructor
  · intro hf
    have := good v hv hf
    exact List.mem_map.mpr ⟨_, this.1, this.2⟩
  · intro h
    obtain ⟨o, ho, e⟩ := List.mem_map.mp h
    obtain ⟨o1, o2⟩ := fitsL_iff.mp ho
    refine full_eq.mpr (fit_full o1 fun d hd => ?_)
    rcases (nar_mem hc).mp hd with rfl | ⟨j, _, hj⟩
    · show firstOf o v.2.1.1 ∈ [v.2.2]
      rw [e]
      exact List.mem_cons_self
    · exact o2 d (List.mem_of_getElem? hj)
end K37
/-! K37AC: a table is of orders: heritage and outcast -/
namespace K37
open PySem PyProof.Rows L2
def bitFacts : Bool := (allLots 4).all fun A => (allLots 4).all fun B => decide (decide (Builtin.bitAnd (bitsL A) (Builtin.bitNot (bitsL B)) = 0) = insideB A B) && decide (Builtin.bitAnd (bitsL A) (bitsL B) = bitsL (A.filter fun x => decide (x ∈ B)))
theorem bit_facts : bitFacts = true := by decide +kernel
theorem bit_in {A B : List Int} (hA : Lot (4 : Nat) A) (hB : Lot (4 : Nat) B) : Builtin.bitAnd (bitsL A) (Builtin.bitNot (bitsL B)) = 0 ↔ ∀ x ∈ A, x ∈ B := by
  have z := List.all_eq_true.mp (List.all_eq_true.mp bit_facts A (lots_has hA)) B (lots_has hB)
  rw [Bool.and_eq_true, decide_eq_true_iff] at z
  rw [← inside_iff, ← z.1, decide_eq_true_iff]
theorem bit_and {A B : List Int} (hA : Lot (4 : Nat) A) (hB : Lot (4 : Nat) B) : Builtin.bitAnd (bitsL A) (bitsL B) = bitsL (A.filter fun x => decide (x ∈ B)) := by
  have z := List.all_eq_true.mp (List.all_eq_true.mp bit_facts A (lots_has hA)) B (lots_has hB)
  rw [Bool.and_eq_true] at z
  exact of_decide_eq_true z.2
theorem lot4 {n : Nat} {A : List Int} (hn : n ≤ 4) (h : Lot (n : Int) A) : Lot (4 : Nat) A := ⟨h.asc, fun x hx => by have := h.bd x hx; omega⟩
/-- heritage -/
def Her (cs : List Case) : Prop := ∀ a ∈ cs, ∀ b ∈ cs, (∀ x ∈ a.1, x ∈ b.1) → ∀ x ∈ b.2, x ∈ a.1 → x ∈ a.2
/-- outcast -/
def Out (cs : List Case) : Prop := ∀ a ∈ cs, ∀ b ∈ cs, (∀ x ∈ a.1, x ∈ b.1) → (∀ x ∈ b.2, x ∈ a.1) → ∀ x ∈ a.2, x ∈ b.2
theorem any_false {cs : List Case} {p : Case → Case → Bool} : (!cs.any fun a => cs.any fun b => p a b) = true ↔ ∀ a ∈ cs, ∀ b ∈ cs, p a b = false := by
  rw [Bool.not_eq_true', List.any_eq_false]
  constructor
  · intro h a ha b hb
    have := h a ha
    rw [Bool.not_eq_true, List.any_eq_false] at this
    have := this b hb
    rwa [Bool.not_eq_true] at this
  · intro h a ha
    rw [Bool.not_eq_true, List.any_eq_false]
    intro b hb
    rw [Bool.not_eq_true]
    exact h a ha b hb
theorem her_iff {n : Nat} {cs : List Case} (hn : n ≤ 4) (hg : ∀ c ∈ cs, GoodC (n : Int) c) : (!brkB "heritage" cs) = true ↔ Her cs := by
  unfold brkB
  rw [any_false]
  have e : ∀ a ∈ cs, ∀ b ∈ cs, brkP "heritage" a b = false ↔ ((∀ x ∈ a.1, x ∈ b.1) → ∀ x ∈ b.2, x ∈ a.1 → x ∈ a.2) := fun a ha b hb => by
    have ga := hg a ha
    have gb := hg b hb
    unfold brkP pbB
    rw [if_pos rfl, bit_and (lot4 hn gb.a) (lot4 hn ga.l)]
    have i1 := bit_in (lot4 hn ga.l) (lot4 hn gb.l)
    have i2 := bit_in ((lot4 hn gb.a).filter fun x => decide (x ∈ a.1)) (lot4 hn ga.a)
    rw [Bool.and_eq_false_iff, decide_eq_false_iff_not, i1, Bool.not_eq_false', decide_eq_true_iff, i2]
    constructor
    · rintro (h | h) hab x hx hxa
      · exact absurd hab h
      · exact h x (List.mem_filter.mpr ⟨hx, decide_eq_true hxa⟩)
    · intro h
      by_cases q : ∀ x ∈ a.1, x ∈ b.1
      · refine .inr fun x hx => ?_
        have := List.mem_filter.mp hx
        exact h q x this.1 (of_decide_eq_true this.2)
      · exact .inl q
  exact ⟨fun h a ha b hb => (e a ha b hb).mp (h a ha b hb), fun h a ha b hb => (e a ha b hb).mpr (h a ha b hb)⟩
theorem out_iff {n : Nat} {cs : List Case} (hn : n ≤ 4) (hg : ∀ c ∈ cs, GoodC (n : Int) c) : (!brkB "outcast" cs) = true ↔ Out cs := by
  unfold brkB
  rw [any_false]
  have e : ∀ a ∈ cs, ∀ b ∈ cs, brkP "outcast" a b = false ↔ ((∀ x ∈ a.1, x ∈ b.1) → (∀ x ∈ b.2, x ∈ a.1) → ∀ x ∈ a.2, x ∈ b.2) := fun a ha b hb => by
    have ga := hg a ha
    have gb := hg b hb
    unfold brkP pbB
    rw [if_neg (by decide +kernel)]
    have i1 := bit_in (lot4 hn ga.l) (lot4 hn gb.l)
    have i2 := bit_in (lot4 hn gb.a) (lot4 hn ga.l)
    have i3 := bit_in (lot4 hn ga.a) (lot4 hn gb.a)
    rw [Bool.and_eq_false_iff, Bool.and_eq_false_iff, decide_eq_false_iff_not, i1, decide_eq_false_iff_not, i2, Bool.not_eq_false', decide_eq_true_iff, i3]
    constructor
    · rintro (h | h | h) h1 h2
      · exact absurd h1 h
      · exact absurd h2 h
      · exact h
    · intro h
      by_cases q : ∀ x ∈ a.1, x ∈ b.1
      · by_cases r : ∀ x ∈ b.2, x ∈ a.1
        · exact .inr (.inr (h q r))
        · exact .inr (.inl r)
      · exact .inl q
  exact ⟨fun h a ha b hb => (e a ha b hb).mp (h a ha b hb), fun h a ha b hb => (e a ha b hb).mpr (h a ha b hb)⟩
theorem enumP_has {α : Type} : ∀ {l : List α} {k j : Nat} {a : α}, l[j]? = some a → (k + j, a) ∈ enumP k l
  | [], _, _, _, h => by cases h
  | b :: l, k, 0, a, h => by
    cases h
    exact List.mem_cons_self
  | b :: l, k, j + 1, a, h => by
    have := enumP_has (l := l) (k := k + 1) (j := j) (a := a) h
    rw [show k + 1 + j = k + (j + 1) by omega] at this
    exact List.mem_cons_of_mem _ this
theorem want_has {cs : List Case} {i : Nat} {c : Case} {x : Int} (h : cs[i]? = some c) (hx : x ∈ c.2) : ((i, c, x) : Want) ∈ wantC (enumP 0 cs) := by
  have := enumP_has (k := 0) h
  rw [Nat.zero_add] at this
  exact List.mem_flatMap.mpr ⟨(i, c), this, List.mem_map.mpr ⟨x, hx, rfl⟩⟩
theorem tbl_holds (n : Nat) (cs : List Case) (hn : n ≤ 4) (tb : TblOk n cs) : (!brkB "heritage" cs && !brkB "outcast" cs) = decide (lackL cs (fitsL n cs) = []) := by
  have hg := tb.good
  have few : cs.length ≤ 80 := by
    have h1 := congrArg List.length tb.lots
    rw [List.length_map, List.length_drop] at h1
    have := (lay_facts n tb.n1 tb.n2).2.2.1
    omega
  have ht : ToldOk (n : Int) cs := ⟨by have := tb.n1; omega, by omega, hg, few⟩
  have M := mth_holds n cs (by omega) ht
  rw [M.lack, Bool.eq_iff_iff, Bool.and_eq_true, decide_eq_true_iff, her_iff hn hg, out_iff hn hg]
  -- every nonempty lot has its case
  have has : ∀ A, Lot (n : Int) A → A ≠ [] → ∃ c ∈ cs, c.1 = A := fun A hA ne => by
    have m := lots_has hA
    have : A ∈ (allLots n).drop 1 := by
      have h0 : (allLots n)[0]? = some [] := by
        match n, tb.n1, hn with
        | 1, _, _ => rfl
        | 2, _, _ => rfl
        | 3, _, _ => rfl
        | 4, _, _ => rfl
      cases q : allLots n with
      | nil =>
        rw [q] at m
        cases m
      | cons z l =>
        rw [q] at m h0
        have e : z = [] := Option.some.inj h0
        rcases List.mem_cons.mp m with h | h
        · rw [e] at h
          exact absurd h ne
        · exact h
    rw [← tb.lots] at this
    obtain ⟨c, hc, e⟩ := List.mem_map.mp this
    exact ⟨c, hc, e⟩
  constructor
  · -- Aizerman and Malishevski's way
    rintro ⟨her, out⟩
    refine List.filter_eq_nil_iff.mpr fun v hv => ?_
    rw [Bool.not_eq_true', Bool.not_eq_false]
    obtain ⟨hc, hx⟩ := want_mem hv
    have hcm := List.mem_of_getElem? hc
    refine full_eq.mpr ?_
    have P := peel_all n (narC cs v.1 v.2.1 v.2.2)
    cases q : (peelN (n : Int) (narC cs v.1 v.2.1 v.2.2)).2 with
    | nil => rfl
    | cons a l =>
      exfalso
      have ne : (peelN (n : Int) (narC cs v.1 v.2.1 v.2.2)).2 ≠ [] := by rw [q]; exact List.cons_ne_nil _ _
      obtain ⟨r, hr, er⟩ := has _ P.left ne
      have gr := hg r hr
      -- each of r's answer is barred by the narrowed case alone
      have key : ∀ y ∈ r.2, y ∈ v.2.1.1 ∧ y ≠ v.2.2 ∧ ∀ z ∈ v.2.1.1, z ∈ r.1 := fun y hy => by
        have hyl : y ∈ (peelN (n : Int) (narC cs v.1 v.2.1 v.2.2)).2 := by rw [← er]; exact gr.sub y hy
        obtain ⟨d, hd, h1, h2, h3⟩ := P.torn y hyl
        rcases (nar_mem hc).mp hd with rfl | ⟨j, _, hj⟩
        · exact ⟨h1, fun z => h2 (by rw [z]; exact List.mem_cons_self), fun z hz => by rw [er]; exact h3 z hz⟩
        · exact absurd (her d (List.mem_of_getElem? hj) r hr (fun z hz => by rw [er]; exact h3 z hz) y hy h1) h2
      cases q2 : r.2 with
      | nil => exact gr.ne q2
      | cons y0 l2 =>
        have hy0 : y0 ∈ r.2 := by rw [q2]; exact List.mem_cons_self
        have sub := (key y0 hy0).2.2
        have := out v.2.1 hcm r hr sub (fun x hx' => (key x hx').1) v.2.2 hx
        exact (key _ this).2.1 rfl
  · intro hl
    have full : ∀ v ∈ wantC (enumP 0 cs), ∃ o ∈ fitsL n cs, firstOf o v.2.1.1 = v.2.2 := fun v hv => by
      have h1 := List.filter_eq_nil_iff.mp hl v hv
      rw [Bool.not_eq_true', Bool.not_eq_false] at h1
      have := M.m3 v hv h1
      exact ⟨_, this.1, this.2⟩
    have pick : ∀ c ∈ cs, ∀ x ∈ c.2, ∃ o, Ord (n : Int) o ∧ (∀ d ∈ cs, firstOf o d.1 ∈ d.2) ∧ firstOf o c.1 = x := fun c hc x hx => by
      obtain ⟨i, hi⟩ := List.mem_iff_getElem?.mp hc
      obtain ⟨o, ho, e⟩ := full _ (want_has hi hx)
      have := fitsL_iff.mp ho
      exact ⟨o, this.1, this.2, e⟩
    have inn : ∀ {o : List Int} {c : Case}, Ord (n : Int) o → c ∈ cs → firstOf o c.1 ∈ o ∧ firstOf o c.1 ∈ c.1 := fun {o c} ho hc => by
      have gc := hg c hc
      cases q : c.1 with
      | nil => exact absurd q gc.ne1
      | cons a l =>
        have ha : a ∈ c.1 := by rw [q]; exact List.mem_cons_self
        rw [← q]
        exact first_mem ((ho.all a).mpr (gc.l.bd a ha)) ha
    refine ⟨fun a ha b hb hab x hx hxa => ?_, fun a ha b hb hab hba x hx => ?_⟩
    · obtain ⟨o, ho, hf, e⟩ := pick b hb x hx
      have e2 := first_sub (A := a.1) (B := b.1) hab (by rw [e]; exact hxa) (inn ho hb).1
      have := hf a ha
      rw [e2, e] at this
      exact this
    · obtain ⟨o, ho, hf, e⟩ := pick a ha x hx
      have h1 := hf b hb
      have e2 := first_sub (A := a.1) (B := b.1) hab (hba _ h1) (inn ho hb).1
      rw [← e2, e] at h1
      exact h1
theorem plain_holds : Plain where
  mth := mth_holds
  tbl := tbl_holds
  ord := fun n o _ h => allOrd_iff.mp h
end K37
/-! K37HF: the facts of the head -/
namespace K37
open PySem PyProof.Rows L2
/-! ### own facts -/
def tupAtB (K : PySem.W.Frag) (a : Addr) (vs : List He.Dv) : Bool := match K.lookup a with
  | some ⟨.type c, _, .seq its _, _⟩ => decide (c = "tuple") && (decide (its.size ≤ sizeLine) && He.relAll (vs.map (He.Dv.v K)) its.toList)
  | _ => false
theorem tupAtB_ok {K : PySem.W.Frag} {a : Addr} {vs : List He.Dv} (h : tupAtB K a vs = true) (H : Hp) : SqT K H a (vs.map (He.Dv.v K)) := by
  unfold tupAtB at h
  cases q : K.lookup a with
  | none =>
    rw [q] at h
    cases h
  | some o =>
    obtain ⟨oc, od, dt, osl⟩ := o
    rw [q] at h
    cases oc with
    | type c =>
      cases dt with
      | seq its n =>
        obtain ⟨h1, h2⟩ := He.ba (show (decide (c = "tuple") && (decide (its.size ≤ sizeLine) && He.relAll (vs.map (He.Dv.v K)) its.toList)) = true from h)
        obtain ⟨h3, h4⟩ := He.ba h2
        exact .inr ⟨_, its, n, q, congrArg Value.type (of_decide_eq_true h1), rfl, of_decide_eq_true h3, He.relAll_ok h4⟩
      | _ => cases h
    | _ => cases dt <;> cases h
/-- the written dict's value at orders -/
def kwO (K : PySem.W.Frag) : Addr := match PySem.W.nsIn K (He.ga K "KIND_WISHES") "orders" with
  | some (some (.ref t)) => t
  | _ => 0
/-- an exception class of ours: over a class of ours over Exception -/
def exShape (K : PySem.W.Frag) (C : Addr) : Bool := match K.lookup C with
  | some ⟨.type "type", _, .cls cd, sl⟩ => (match cd.mro, sl.toList with
    | .ref C' :: .ref _ :: bm, [_, _, _, _, some (.builtin n), _] => decide (C' = C) && (decide (n = "Exception.__new__") && (!cd.hasDel && (cd.hasDict && decide (bm = PySem.ESX.exTail))))
    | _, _ => false)
  | _ => false
theorem exShape_ok {K : PySem.W.Frag} {C : Addr} (q : exShape K C = true) : ∃ nm q N bs NE sn sub ab col dd k0 k1 k2 k3 k5, K.lookup C = some (excClassObj nm q C N bs (PySem.LowX.tailN NE) true sn sub ab col dd k0 k1 k2 k3 k5 "Exception.__new__") := by
  unfold exShape at q
  split at q
  · rename_i dd cd sl ho
    split at q
    · rename_i C' NE bm k0 k1 k2 k3 n k5 hm hs
      simp only [Bool.and_eq_true, decide_eq_true_iff, Bool.not_eq_true'] at q
      obtain ⟨rfl, rfl, hdel, hdict, rfl⟩ := q
      obtain ⟨nm, bs, mro, ns, qn, hd, sn, sub, ab, col, del⟩ := cd
      dsimp only at hm hdel hdict
      subst hm hdel hdict
      have hsl : sl = #[k0, k1, k2, k3, some (.builtin "Exception.__new__"), k5] := by
        obtain ⟨l⟩ := sl
        simp only at hs
        rw [hs]
      subst hsl
      exact ⟨nm, qn, ns, bs, NE, sn, sub, ab, col, dd, k0, k1, k2, k3, k5, ho⟩
    · cases q
  · cases q
/-- what is looked up of an exception class C with the field f -/
def exAll (K : PySem.W.Frag) (x f : PySem.Str) : Bool := exShape K (He.ga K x) && (He.eqO (PySem.W.findIn K (.ref (He.ga K x)) "__setattr__") (some (some (.builtin "object.__setattr__"))) && (He.eqO (PySem.W.findIn K (.ref (He.ga K x)) "__getattribute__") (some (some (.builtin "BaseException.__getattribute__"))) &&
  (He.eqO (PySem.W.findIn K (.ref (He.ga K x)) "__getattr__") (some none) && (He.eqO (PySem.W.findIn K (.ref (He.ga K x)) f) (some none) && (He.eqO (PySem.W.findIn K (.ref (He.ga K x)) "__init__") (some (some (.ref (He.ma K (He.ga K x) "__init__")))) &&
  (decide (PySem.W.typeIn K (.ref (He.ma K (He.ga K x) "__init__")) = some (.type "function")) && (PySem.W.keepIn K (.ref (He.ga K x)) && (decide (PySem.W.subIn K (.ref (He.ga K x)) (.type "BaseException") = some true) && (decide (PySem.W.typeIn K (.ref (He.ga K x)) = some (.type "type")) &&
  (PySem.W.hasDictIn K (He.ga K x) && decide (PySem.W.exmOne K (.ref (He.ga K x)) (.ref (He.ga K x)) = some true)))))))))))
/-- all own facts -/
def exB (K : PySem.W.Frag) : Bool := exAll K "BadOrder" "place" && (exAll K "BadNumber" "name" &&
  (He.tupB K "WISHES" [.str "heritage", .str "unite", .str "outcast", .str "cross", .str "arrow", .str "single"] && (He.tupB K "KINDS" [.str "ringless", .str "orders", .str "parts", .str "stretches", .str "rank", .str "strict"] &&
  (He.eqO (PySem.W.nsIn K (He.ga K "KIND_WISHES") "orders") (some (some (.ref (kwO K)))) && (tupAtB K (kwO K) [.str "heritage", .str "outcast"] &&
  (He.eqO (PySem.W.findIn K (.ref (He.ga K "Told")) "__class__") (some (some (.builtin "object.__class__"))) && (He.eqO (PySem.W.specialIn K (.builtin "object.__class__") "__get__") (some (some (.builtin "getset_descriptor.__get__"))) &&
  (decide (PySem.W.takesIn K (.builtin "object.__class__") = some true) && decide (PySem.W.mroIn K (He.ga K "Told") (.type "object") = some true)))))))))
def dd_whole_number : He.DefD := ⟨("whole_number", none), "whole_number", "whole_number", defArgs st_whole_number, defBody st_whole_number, defScope st_whole_number, [], []⟩
def dd_is_row : He.DefD := ⟨("is_row", none), "is_row", "is_row", defArgs st_is_row, defBody st_is_row, defScope st_is_row, [], []⟩
def dd_check_worlds : He.DefD := ⟨("check_worlds", none), "check_worlds", "check_worlds", defArgs st_check_worlds, defBody st_check_worlds, defScope st_check_worlds, [], []⟩
def dd_is_world : He.DefD := ⟨("is_world", none), "is_world", "is_world", defArgs st_is_world, defBody st_is_world, defScope st_is_world, [], []⟩
def dd_first_stranger : He.DefD := ⟨("first_stranger", none), "first_stranger", "first_stranger", defArgs st_first_stranger, defBody st_first_stranger, defScope st_first_stranger, [], []⟩
def dd_lot_of : He.DefD := ⟨("lot_of", none), "lot_of", "lot_of", defArgs st_lot_of, defBody st_lot_of, defScope st_lot_of, [], [("empty", .bl true)]⟩
def dd_every : He.DefD := ⟨("every", none), "every", "every", defArgs st_every, defBody st_every, defScope st_every, [], []⟩
def dd_minus : He.DefD := ⟨("minus", none), "minus", "minus", defArgs st_minus, defBody st_minus, defScope st_minus, [], []⟩
def dd_inside : He.DefD := ⟨("inside", none), "inside", "inside", defArgs st_inside, defBody st_inside, defScope st_inside, [], []⟩
def dd_lot_list : He.DefD := ⟨("lot_list", none), "lot_list", "lot_list", defArgs st_lot_list, defBody st_lot_list, defScope st_lot_list, [], []⟩
def dd__told_pair : He.DefD := ⟨("_told_pair", none), "_told_pair", "_told_pair", defArgs st__told_pair, defBody st__told_pair, defScope st__told_pair, [], []⟩
def dd__told_steps : He.DefD := ⟨("_told_steps", none), "_told_steps", "_told_steps", defArgs st__told_steps, defBody st__told_steps, defScope st__told_steps, [], []⟩
def dd_told_family : He.DefD := ⟨("told_family", none), "told_family", "told_family", defArgs st_told_family, defBody st_told_family, defScope st_told_family, [], []⟩
def dd_told_of : He.DefD := ⟨("told_of", none), "told_of", "told_of", defArgs st_told_of, defBody st_told_of, defScope st_told_of, [], []⟩
def dd__said_order : He.DefD := ⟨("_said_order", none), "_said_order", "_said_order", defArgs st__said_order, defBody st__said_order, defScope st__said_order, [], []⟩
def dd_fits_told : He.DefD := ⟨("fits_told", none), "fits_told", "fits_told", defArgs st_fits_told, defBody st_fits_told, defScope st_fits_told, [], []⟩
def dd__next_taken : He.DefD := ⟨("_next_taken", none), "_next_taken", "_next_taken", defArgs st__next_taken, defBody st__next_taken, defScope st__next_taken, [], []⟩
def dd__taken_and_left : He.DefD := ⟨("_taken_and_left", none), "_taken_and_left", "_taken_and_left", defArgs st__taken_and_left, defBody st__taken_and_left, defScope st__taken_and_left, [], []⟩
def dd_torn_told : He.DefD := ⟨("torn_told", none), "torn_told", "torn_told", defArgs st_torn_told, defBody st_torn_told, defScope st_torn_told, [], []⟩
def dd_narrowed_told : He.DefD := ⟨("narrowed_told", none), "narrowed_told", "narrowed_told", defArgs st_narrowed_told, defBody st_narrowed_told, defScope st_narrowed_told, [], []⟩
def dd__order_or_tear : He.DefD := ⟨("_order_or_tear", none), "_order_or_tear", "_order_or_tear", defArgs st__order_or_tear, defBody st__order_or_tear, defScope st__order_or_tear, [], []⟩
def dd_orders_told : He.DefD := ⟨("orders_told", none), "orders_told", "orders_told", defArgs st_orders_told, defBody st_orders_told, defScope st_orders_told, [], []⟩
def dd_why_no_orders : He.DefD := ⟨("why_no_orders", none), "why_no_orders", "why_no_orders", defArgs st_why_no_orders, defBody st_why_no_orders, defScope st_why_no_orders, [], []⟩
def dd_check_table_worlds : He.DefD := ⟨("check_table_worlds", none), "check_table_worlds", "check_table_worlds", defArgs st_check_table_worlds, defBody st_check_table_worlds, defScope st_check_table_worlds, [], []⟩
def dd_lot_or_none : He.DefD := ⟨("lot_or_none", none), "lot_or_none", "lot_or_none", defArgs st_lot_or_none, defBody st_lot_or_none, defScope st_lot_or_none, [], []⟩
def dd_table_pair : He.DefD := ⟨("table_pair", none), "table_pair", "table_pair", defArgs st_table_pair, defBody st_table_pair, defScope st_table_pair, [], []⟩
def dd_lot_bits : He.DefD := ⟨("lot_bits", none), "lot_bits", "lot_bits", defArgs st_lot_bits, defBody st_lot_bits, defScope st_lot_bits, [], []⟩
def dd_bits_lot : He.DefD := ⟨("bits_lot", none), "bits_lot", "bits_lot", defArgs st_bits_lot, defBody st_bits_lot, defScope st_bits_lot, [], []⟩
def dd_pair_breaks : He.DefD := ⟨("pair_breaks", none), "pair_breaks", "pair_breaks", defArgs st_pair_breaks, defBody st_pair_breaks, defScope st_pair_breaks, [], []⟩
def dd_first_break : He.DefD := ⟨("first_break", none), "first_break", "first_break", defArgs st_first_break, defBody st_first_break, defScope st_first_break, [], []⟩
def dd_has_wish : He.DefD := ⟨("has_wish", none), "has_wish", "has_wish", defArgs st_has_wish, defBody st_has_wish, defScope st_has_wish, [], []⟩
def dd_is_kind : He.DefD := ⟨("is_kind", none), "is_kind", "is_kind", defArgs st_is_kind, defBody st_is_kind, defScope st_is_kind, [], []⟩
def dd__law_draws : He.DefD := ⟨("_law_draws", none), "_law_draws", "_law_draws", defArgs st__law_draws, defBody st__law_draws, defScope st__law_draws, [], []⟩
def dd__law_take : He.DefD := ⟨("_law_take", none), "_law_take", "_law_take", defArgs st__law_take, defBody st__law_take, defScope st__law_take, [], []⟩
def dd__law_int : He.DefD := ⟨("_law_int", none), "_law_int", "_law_int", defArgs st__law_int, defBody st__law_int, defScope st__law_int, [], []⟩
def dd__law_lots : He.DefD := ⟨("_law_lots", none), "_law_lots", "_law_lots", defArgs st__law_lots, defBody st__law_lots, defScope st__law_lots, [], []⟩
def dd__law_lot : He.DefD := ⟨("_law_lot", none), "_law_lot", "_law_lot", defArgs st__law_lot, defBody st__law_lot, defScope st__law_lot, [], []⟩
def dd__law_some : He.DefD := ⟨("_law_some", none), "_law_some", "_law_some", defArgs st__law_some, defBody st__law_some, defScope st__law_some, [], []⟩
def dd__law_common : He.DefD := ⟨("_law_common", none), "_law_common", "_law_common", defArgs st__law_common, defBody st__law_common, defScope st__law_common, [], []⟩
def dd__law_plus : He.DefD := ⟨("_law_plus", none), "_law_plus", "_law_plus", defArgs st__law_plus, defBody st__law_plus, defScope st__law_plus, [], []⟩
def dd__law_inside : He.DefD := ⟨("_law_inside", none), "_law_inside", "_law_inside", defArgs st__law_inside, defBody st__law_inside, defScope st__law_inside, [], []⟩
def dd__law_size : He.DefD := ⟨("_law_size", none), "_law_size", "_law_size", defArgs st__law_size, defBody st__law_size, defScope st__law_size, [], []⟩
def dd__law_handed : He.DefD := ⟨("_law_handed", none), "_law_handed", "_law_handed", defArgs st__law_handed, defBody st__law_handed, defScope st__law_handed, [], []⟩
def dd__law_says : He.DefD := ⟨("_law_says", none), "_law_says", "_law_says", defArgs st__law_says, defBody st__law_says, defScope st__law_says, [], []⟩
def dd__law_orders : He.DefD := ⟨("_law_orders", none), "_law_orders", "_law_orders", defArgs st__law_orders, defBody st__law_orders, defScope st__law_orders, [], []⟩
def dd__law_first : He.DefD := ⟨("_law_first", none), "_law_first", "_law_first", defArgs st__law_first, defBody st__law_first, defScope st__law_first, [], []⟩
def dd__law_order_fits : He.DefD := ⟨("_law_order_fits", none), "_law_order_fits", "_law_order_fits", defArgs st__law_order_fits, defBody st__law_order_fits, defScope st__law_order_fits, [], []⟩
def dd__law_torn : He.DefD := ⟨("_law_torn", none), "_law_torn", "_law_torn", defArgs st__law_torn, defBody st__law_torn, defScope st__law_torn, [], []⟩
def dd__law_greatest_torn : He.DefD := ⟨("_law_greatest_torn", none), "_law_greatest_torn", "_law_greatest_torn", defArgs st__law_greatest_torn, defBody st__law_greatest_torn, defScope st__law_greatest_torn, [], []⟩
def dd__law_spoil : He.DefD := ⟨("_law_spoil", none), "_law_spoil", "_law_spoil", defArgs st__law_spoil, defBody st__law_spoil, defScope st__law_spoil, [], []⟩
def dd__law_made : He.DefD := ⟨("_law_made", none), "_law_made", "_law_made", defArgs st__law_made, defBody st__law_made, defScope st__law_made, [], []⟩
def dd__law_order_refused : He.DefD := ⟨("_law_order_refused", none), "_law_order_refused", "_law_order_refused", defArgs st__law_order_refused, defBody st__law_order_refused, defScope st__law_order_refused, [], []⟩
def dd__law_place_refused : He.DefD := ⟨("_law_place_refused", none), "_law_place_refused", "_law_place_refused", defArgs st__law_place_refused, defBody st__law_place_refused, defScope st__law_place_refused, [], []⟩
def dd__law_refusals : He.DefD := ⟨("_law_refusals", none), "_law_refusals", "_law_refusals", defArgs st__law_refusals, defBody st__law_refusals, defScope st__law_refusals, [], []⟩
def dd__law_order_good : He.DefD := ⟨("_law_order_good", none), "_law_order_good", "_law_order_good", defArgs st__law_order_good, defBody st__law_order_good, defScope st__law_order_good, [], []⟩
def dd__law_wanted : He.DefD := ⟨("_law_wanted", none), "_law_wanted", "_law_wanted", defArgs st__law_wanted, defBody st__law_wanted, defScope st__law_wanted, [], []⟩
def dd__law_lacking : He.DefD := ⟨("_law_lacking", none), "_law_lacking", "_law_lacking", defArgs st__law_lacking, defBody st__law_lacking, defScope st__law_lacking, [], []⟩
def dd__law_judged : He.DefD := ⟨("_law_judged", none), "_law_judged", "_law_judged", defArgs st__law_judged, defBody st__law_judged, defScope st__law_judged, [], []⟩
def dd_law : He.DefD := ⟨("law", none), "law", "law", defArgs st_law, defBody st_law, defScope st_law, [], []⟩
def dd_Told___init__ : He.DefD := ⟨("Told", some "__init__"), "__init__", "Told.__init__", defArgs st_Told___init__, defBody st_Told___init__, defScope st_Told___init__, [], []⟩
def dd_Told___eq__ : He.DefD := ⟨("Told", some "__eq__"), "__eq__", "Told.__eq__", defArgs st_Told___eq__, defBody st_Told___eq__, defScope st_Told___eq__, [], []⟩
def dd_Table___init__ : He.DefD := ⟨("Table", some "__init__"), "__init__", "Table.__init__", defArgs st_Table___init__, defBody st_Table___init__, defScope st_Table___init__, [], []⟩
def dd_Table_answer : He.DefD := ⟨("Table", some "answer"), "answer", "Table.answer", defArgs st_Table_answer, defBody st_Table_answer, defScope st_Table_answer, [], []⟩
def dd_BadNumber___init__ : He.DefD := ⟨("BadNumber", some "__init__"), "__init__", "BadNumber.__init__", defArgs st_BadNumber___init__, defBody st_BadNumber___init__, defScope st_BadNumber___init__, [], []⟩
def dd_BadOrder___init__ : He.DefD := ⟨("BadOrder", some "__init__"), "__init__", "BadOrder.__init__", defArgs st_BadOrder___init__, defBody st_BadOrder___init__, defScope st_BadOrder___init__, [], []⟩
def hfn0 : List He.DefD := [dd_whole_number, dd_is_row, dd_check_worlds, dd_is_world, dd_first_stranger, dd_lot_of, dd_every, dd_minus, dd_inside, dd_lot_list, dd__told_pair, dd__told_steps, dd_told_family, dd_told_of, dd__said_order, dd_fits_told, dd__next_taken, dd__taken_and_left, dd_torn_told, dd_narrowed_told, dd__order_or_tear, dd_orders_told, dd_why_no_orders, dd_check_table_worlds, dd_lot_or_none, dd_table_pair, dd_lot_bits, dd_bits_lot, dd_pair_breaks, dd_first_break]
def hfn1 : List He.DefD := [dd_has_wish, dd_is_kind, dd__law_draws, dd__law_take, dd__law_int, dd__law_lots, dd__law_lot, dd__law_some, dd__law_common, dd__law_plus, dd__law_inside, dd__law_size, dd__law_handed, dd__law_says, dd__law_orders, dd__law_first, dd__law_order_fits, dd__law_torn, dd__law_greatest_torn, dd__law_spoil, dd__law_made, dd__law_order_refused, dd__law_place_refused, dd__law_refusals, dd__law_order_good, dd__law_wanted, dd__law_lacking, dd__law_judged, dd_law, dd_Told___init__]
def hfn2 : List He.DefD := [dd_Told___eq__, dd_Table___init__, dd_Table_answer, dd_BadNumber___init__, dd_BadOrder___init__]
def hfn : List He.DefD := hfn0 ++ hfn1 ++ hfn2
def hfa0 : List He.Fa := [.glo "whole_number", .glo "is_row", .glo "check_worlds", .glo "is_world", .glo "first_stranger", .glo "lot_of", .glo "every", .glo "minus", .glo "inside", .glo "lot_list", .glo "_told_pair", .glo "_told_steps", .glo "told_family", .glo "told_of", .glo "_said_order", .glo "fits_told", .glo "_next_taken", .glo "_taken_and_left", .glo "torn_told", .glo "narrowed_told", .glo "_order_or_tear", .glo "orders_told", .glo "why_no_orders", .glo "check_table_worlds", .glo "lot_or_none", .glo "table_pair", .glo "lot_bits", .glo "bits_lot", .glo "pair_breaks", .glo "first_break"]
def hfa1 : List He.Fa := [.glo "has_wish", .glo "is_kind", .glo "_law_draws", .glo "_law_take", .glo "_law_int", .glo "_law_lots", .glo "_law_lot", .glo "_law_some", .glo "_law_common", .glo "_law_plus", .glo "_law_inside", .glo "_law_size", .glo "_law_handed", .glo "_law_says", .glo "_law_orders", .glo "_law_first", .glo "_law_order_fits", .glo "_law_torn", .glo "_law_greatest_torn", .glo "_law_spoil", .glo "_law_made", .glo "_law_order_refused", .glo "_law_place_refused", .glo "_law_refusals", .glo "_law_order_good", .glo "_law_wanted", .glo "_law_lacking", .glo "_law_judged", .glo "law", .glo "Told"]
def hfa2 : List He.Fa := [.glo "Table", .glo "BadOrder", .glo "BadNumber", .glo "WISHES", .glo "KINDS", .glo "KIND_WISHES", .free "isinstance", .free "len", .free "all", .free "sum", .free "sorted", .free "min", .free "tuple", .free "list", .free "int", .free "bool", .free "range", .free "enumerate", .int "MOST_TOLD" 80, .int "TABLE_WORLDS" 6, .cls "Told", .cls "Table", .noat "Told" "worlds", .noat "Told" "cases", .noat "Told" "comparisons", .noat "Told" "sources", .noat "Table" "worlds", .noat "Table" "pairs", .noat "Table" "_told", .mkr "Told"]
def hfa3 : List He.Fa := [.mkr "Table", .meth "Table" "answer", .meth "Told" "__eq__"]
def hfa : List He.Fa := hfa0 ++ hfa1 ++ hfa2 ++ hfa3
def hts : List He.Tab := [(fun K => He.ga K "KIND_WISHES", ["ringless", "orders", "parts", "stretches", "rank", "strict"])]
/-! ### the Hook: what the module's names reach, by few steps and no more -/
def refs2 (o : Obj) : List Addr := match o.data with
  | .func fd => He.refV fd.code ++ He.refV fd.kwdefaults
  | .cls cd => [cd.ns]
  | .dict es _ => es.toList.flatMap fun e => He.refV e.val
  | _ => []
def stepA (g : Addr → Option Obj) (as : List Addr) : List Addr := as.flatMap fun a => match g a with
  | some o => refs2 o
  | none => []
def asMy (g : Addr → Option Obj) : List Addr :=
  let l1 := stepA g [mainGlobals]
  let l2 := stepA g l1
  let l3 := stepA g l2
  let l4 := stepA g l3
  mainGlobals :: (l1 ++ (l2 ++ (l3 ++ l4)))
def SaysY (w : World) (K : PySem.W.Frag) : Prop := He.SaysT hfa hfn hts w K ∧ exB K = true
abbrev AlY : Type := He.AlT × Bool
def obsK (K : PySem.W.Frag) : AlY := (He.obsT hfa hfn hts K, exB K)
def obsY (g : Addr → Option Obj) : AlY := obsK (He.frG g (asMy g))
def valY (w : World) : AlY := (He.valT hfn hts w, true)
theorem saysY_of {w : World} {K : PySem.W.Frag} (e : obsK K = valY w) : SaysY w K := ⟨congrArg (fun z : AlY => z.1) e, congrArg (fun z : AlY => z.2) e⟩
def hookY : PySem.W.Hook where
  α := AlY
  obs := fun s => obsY s.heap.get?
  val := fun w => valY w
  says := fun w h => ∃ K : PySem.W.Frag, K.In h ∧ SaysY w K
  of := fun _ _ e => ⟨_, He.frG_in, saysY_of e⟩
  keeps := fun _ _ _ ⟨K, hK, c⟩ k => ⟨K, PySem.W.Frag.In.keeps hK k, c⟩
theorem obsY_eq {g : Addr → Option Obj} {s : Shared} (h : ∀ a, g a = s.heap.get? a) : obsY g = hookY.obs s := by
  have e : g = s.heap.get? := funext h
  rw [e] <;> rfl
section
variable {K : PySem.W.Frag} {w : World} {h : Heap} {mg : PySem.Str → Option Value}
theorem hfa_mem {f : He.Fa} (c : SaysY w K) (i : Nat) (e : hfa[i]? = some f := by rfl) : f.ok K = true := c.1.d.fact i e
theorem tx_of (X : K.In h) (G : h.Ns mainGlobals mg) (c : SaysY w K) : Tx K mg := by
  obtain ⟨e1, e⟩ := He.ba (show exB K = true from c.2)
  obtain ⟨e2, e⟩ := He.ba e
  obtain ⟨e3, e⟩ := He.ba e
  obtain ⟨e4, e⟩ := He.ba e
  exact {
    d_whole_number := ⟨c.1.d.def_ 0 (d := dd_whole_number) rfl, He.glo_ok X G (hfa_mem c 0 (f := .glo "whole_number"))⟩
    d_is_row := ⟨c.1.d.def_ 1 (d := dd_is_row) rfl, He.glo_ok X G (hfa_mem c 1 (f := .glo "is_row"))⟩
    d_check_worlds := ⟨c.1.d.def_ 2 (d := dd_check_worlds) rfl, He.glo_ok X G (hfa_mem c 2 (f := .glo "check_worlds"))⟩
    d_is_world := ⟨c.1.d.def_ 3 (d := dd_is_world) rfl, He.glo_ok X G (hfa_mem c 3 (f := .glo "is_world"))⟩
    d_first_stranger := ⟨c.1.d.def_ 4 (d := dd_first_stranger) rfl, He.glo_ok X G (hfa_mem c 4 (f := .glo "first_stranger"))⟩
    d_lot_of := ⟨c.1.d.def_ 5 (d := dd_lot_of) rfl, He.glo_ok X G (hfa_mem c 5 (f := .glo "lot_of"))⟩
    d_every := ⟨c.1.d.def_ 6 (d := dd_every) rfl, He.glo_ok X G (hfa_mem c 6 (f := .glo "every"))⟩
    d_minus := ⟨c.1.d.def_ 7 (d := dd_minus) rfl, He.glo_ok X G (hfa_mem c 7 (f := .glo "minus"))⟩
    d_inside := ⟨c.1.d.def_ 8 (d := dd_inside) rfl, He.glo_ok X G (hfa_mem c 8 (f := .glo "inside"))⟩
    d_lot_list := ⟨c.1.d.def_ 9 (d := dd_lot_list) rfl, He.glo_ok X G (hfa_mem c 9 (f := .glo "lot_list"))⟩
    d__told_pair := ⟨c.1.d.def_ 10 (d := dd__told_pair) rfl, He.glo_ok X G (hfa_mem c 10 (f := .glo "_told_pair"))⟩
    d__told_steps := ⟨c.1.d.def_ 11 (d := dd__told_steps) rfl, He.glo_ok X G (hfa_mem c 11 (f := .glo "_told_steps"))⟩
    d_told_family := ⟨c.1.d.def_ 12 (d := dd_told_family) rfl, He.glo_ok X G (hfa_mem c 12 (f := .glo "told_family"))⟩
    d_told_of := ⟨c.1.d.def_ 13 (d := dd_told_of) rfl, He.glo_ok X G (hfa_mem c 13 (f := .glo "told_of"))⟩
    d__said_order := ⟨c.1.d.def_ 14 (d := dd__said_order) rfl, He.glo_ok X G (hfa_mem c 14 (f := .glo "_said_order"))⟩
    d_fits_told := ⟨c.1.d.def_ 15 (d := dd_fits_told) rfl, He.glo_ok X G (hfa_mem c 15 (f := .glo "fits_told"))⟩
    d__next_taken := ⟨c.1.d.def_ 16 (d := dd__next_taken) rfl, He.glo_ok X G (hfa_mem c 16 (f := .glo "_next_taken"))⟩
    d__taken_and_left := ⟨c.1.d.def_ 17 (d := dd__taken_and_left) rfl, He.glo_ok X G (hfa_mem c 17 (f := .glo "_taken_and_left"))⟩
    d_torn_told := ⟨c.1.d.def_ 18 (d := dd_torn_told) rfl, He.glo_ok X G (hfa_mem c 18 (f := .glo "torn_told"))⟩
    d_narrowed_told := ⟨c.1.d.def_ 19 (d := dd_narrowed_told) rfl, He.glo_ok X G (hfa_mem c 19 (f := .glo "narrowed_told"))⟩
    d__order_or_tear := ⟨c.1.d.def_ 20 (d := dd__order_or_tear) rfl, He.glo_ok X G (hfa_mem c 20 (f := .glo "_order_or_tear"))⟩
    d_orders_told := ⟨c.1.d.def_ 21 (d := dd_orders_told) rfl, He.glo_ok X G (hfa_mem c 21 (f := .glo "orders_told"))⟩
    d_why_no_orders := ⟨c.1.d.def_ 22 (d := dd_why_no_orders) rfl, He.glo_ok X G (hfa_mem c 22 (f := .glo "why_no_orders"))⟩
    d_check_table_worlds := ⟨c.1.d.def_ 23 (d := dd_check_table_worlds) rfl, He.glo_ok X G (hfa_mem c 23 (f := .glo "check_table_worlds"))⟩
    d_lot_or_none := ⟨c.1.d.def_ 24 (d := dd_lot_or_none) rfl, He.glo_ok X G (hfa_mem c 24 (f := .glo "lot_or_none"))⟩
    d_table_pair := ⟨c.1.d.def_ 25 (d := dd_table_pair) rfl, He.glo_ok X G (hfa_mem c 25 (f := .glo "table_pair"))⟩
    d_lot_bits := ⟨c.1.d.def_ 26 (d := dd_lot_bits) rfl, He.glo_ok X G (hfa_mem c 26 (f := .glo "lot_bits"))⟩
    d_bits_lot := ⟨c.1.d.def_ 27 (d := dd_bits_lot) rfl, He.glo_ok X G (hfa_mem c 27 (f := .glo "bits_lot"))⟩
    d_pair_breaks := ⟨c.1.d.def_ 28 (d := dd_pair_breaks) rfl, He.glo_ok X G (hfa_mem c 28 (f := .glo "pair_breaks"))⟩
    d_first_break := ⟨c.1.d.def_ 29 (d := dd_first_break) rfl, He.glo_ok X G (hfa_mem c 29 (f := .glo "first_break"))⟩
    d_has_wish := ⟨c.1.d.def_ 30 (d := dd_has_wish) rfl, He.glo_ok X G (hfa_mem c 30 (f := .glo "has_wish"))⟩
    d_is_kind := ⟨c.1.d.def_ 31 (d := dd_is_kind) rfl, He.glo_ok X G (hfa_mem c 31 (f := .glo "is_kind"))⟩
    d__law_draws := ⟨c.1.d.def_ 32 (d := dd__law_draws) rfl, He.glo_ok X G (hfa_mem c 32 (f := .glo "_law_draws"))⟩
    d__law_take := ⟨c.1.d.def_ 33 (d := dd__law_take) rfl, He.glo_ok X G (hfa_mem c 33 (f := .glo "_law_take"))⟩
    d__law_int := ⟨c.1.d.def_ 34 (d := dd__law_int) rfl, He.glo_ok X G (hfa_mem c 34 (f := .glo "_law_int"))⟩
    d__law_lots := ⟨c.1.d.def_ 35 (d := dd__law_lots) rfl, He.glo_ok X G (hfa_mem c 35 (f := .glo "_law_lots"))⟩
    d__law_lot := ⟨c.1.d.def_ 36 (d := dd__law_lot) rfl, He.glo_ok X G (hfa_mem c 36 (f := .glo "_law_lot"))⟩
    d__law_some := ⟨c.1.d.def_ 37 (d := dd__law_some) rfl, He.glo_ok X G (hfa_mem c 37 (f := .glo "_law_some"))⟩
    d__law_common := ⟨c.1.d.def_ 38 (d := dd__law_common) rfl, He.glo_ok X G (hfa_mem c 38 (f := .glo "_law_common"))⟩
    d__law_plus := ⟨c.1.d.def_ 39 (d := dd__law_plus) rfl, He.glo_ok X G (hfa_mem c 39 (f := .glo "_law_plus"))⟩
    d__law_inside := ⟨c.1.d.def_ 40 (d := dd__law_inside) rfl, He.glo_ok X G (hfa_mem c 40 (f := .glo "_law_inside"))⟩
    d__law_size := ⟨c.1.d.def_ 41 (d := dd__law_size) rfl, He.glo_ok X G (hfa_mem c 41 (f := .glo "_law_size"))⟩
    d__law_handed := ⟨c.1.d.def_ 42 (d := dd__law_handed) rfl, He.glo_ok X G (hfa_mem c 42 (f := .glo "_law_handed"))⟩
    d__law_says := ⟨c.1.d.def_ 43 (d := dd__law_says) rfl, He.glo_ok X G (hfa_mem c 43 (f := .glo "_law_says"))⟩
    d__law_orders := ⟨c.1.d.def_ 44 (d := dd__law_orders) rfl, He.glo_ok X G (hfa_mem c 44 (f := .glo "_law_orders"))⟩
    d__law_first := ⟨c.1.d.def_ 45 (d := dd__law_first) rfl, He.glo_ok X G (hfa_mem c 45 (f := .glo "_law_first"))⟩
    d__law_order_fits := ⟨c.1.d.def_ 46 (d := dd__law_order_fits) rfl, He.glo_ok X G (hfa_mem c 46 (f := .glo "_law_order_fits"))⟩
    d__law_torn := ⟨c.1.d.def_ 47 (d := dd__law_torn) rfl, He.glo_ok X G (hfa_mem c 47 (f := .glo "_law_torn"))⟩
    d__law_greatest_torn := ⟨c.1.d.def_ 48 (d := dd__law_greatest_torn) rfl, He.glo_ok X G (hfa_mem c 48 (f := .glo "_law_greatest_torn"))⟩
    d__law_spoil := ⟨c.1.d.def_ 49 (d := dd__law_spoil) rfl, He.glo_ok X G (hfa_mem c 49 (f := .glo "_law_spoil"))⟩
    d__law_made := ⟨c.1.d.def_ 50 (d := dd__law_made) rfl, He.glo_ok X G (hfa_mem c 50 (f := .glo "_law_made"))⟩
    d__law_order_refused := ⟨c.1.d.def_ 51 (d := dd__law_order_refused) rfl, He.glo_ok X G (hfa_mem c 51 (f := .glo "_law_order_refused"))⟩
    d__law_place_refused := ⟨c.1.d.def_ 52 (d := dd__law_place_refused) rfl, He.glo_ok X G (hfa_mem c 52 (f := .glo "_law_place_refused"))⟩
    d__law_refusals := ⟨c.1.d.def_ 53 (d := dd__law_refusals) rfl, He.glo_ok X G (hfa_mem c 53 (f := .glo "_law_refusals"))⟩
    d__law_order_good := ⟨c.1.d.def_ 54 (d := dd__law_order_good) rfl, He.glo_ok X G (hfa_mem c 54 (f := .glo "_law_order_good"))⟩
    d__law_wanted := ⟨c.1.d.def_ 55 (d := dd__law_wanted) rfl, He.glo_ok X G (hfa_mem c 55 (f := .glo "_law_wanted"))⟩
    d__law_lacking := ⟨c.1.d.def_ 56 (d := dd__law_lacking) rfl, He.glo_ok X G (hfa_mem c 56 (f := .glo "_law_lacking"))⟩
    d__law_judged := ⟨c.1.d.def_ 57 (d := dd__law_judged) rfl, He.glo_ok X G (hfa_mem c 57 (f := .glo "_law_judged"))⟩
    d_law := ⟨c.1.d.def_ 58 (d := dd_law) rfl, He.glo_ok X G (hfa_mem c 58 (f := .glo "law"))⟩
    b_isinstance := He.free_ok X G (hfa_mem c 66 (f := .free "isinstance"))
    b_len := He.free_ok X G (hfa_mem c 67 (f := .free "len"))
    b_all := He.free_ok X G (hfa_mem c 68 (f := .free "all"))
    b_sum := He.free_ok X G (hfa_mem c 69 (f := .free "sum"))
    b_sorted := He.free_ok X G (hfa_mem c 70 (f := .free "sorted"))
    b_min := He.free_ok X G (hfa_mem c 71 (f := .free "min"))
    b_tuple := He.free_ok X G (hfa_mem c 72 (f := .free "tuple"))
    b_list := He.free_ok X G (hfa_mem c 73 (f := .free "list"))
    b_int := He.free_ok X G (hfa_mem c 74 (f := .free "int"))
    b_bool := He.free_ok X G (hfa_mem c 75 (f := .free "bool"))
    b_range := He.free_ok X G (hfa_mem c 76 (f := .free "range"))
    b_enumerate := He.free_ok X G (hfa_mem c 77 (f := .free "enumerate"))
    c_told := He.cls_ok (hfa_mem c 80 (f := .cls "Told"))
    m_told := He.mkr_ok (hfa_mem c 89 (f := .mkr "Told"))
    g_told := He.glo_ok X G (hfa_mem c 59 (f := .glo "Told"))
    c_table := He.cls_ok (hfa_mem c 81 (f := .cls "Table"))
    m_table := He.mkr_ok (hfa_mem c 90 (f := .mkr "Table"))
    g_table := He.glo_ok X G (hfa_mem c 60 (f := .glo "Table"))
    n_told_w := He.noat_ok (hfa_mem c 82 (f := .noat "Told" "worlds"))
    n_told_c := He.noat_ok (hfa_mem c 83 (f := .noat "Told" "cases"))
    n_told_p := He.noat_ok (hfa_mem c 84 (f := .noat "Told" "comparisons"))
    n_told_s := He.noat_ok (hfa_mem c 85 (f := .noat "Told" "sources"))
    n_table_w := He.noat_ok (hfa_mem c 86 (f := .noat "Table" "worlds"))
    n_table_p := He.noat_ok (hfa_mem c 87 (f := .noat "Table" "pairs"))
    n_table_t := He.noat_ok (hfa_mem c 88 (f := .noat "Table" "_told"))
    d_told_init := ⟨c.1.d.def_ 59 (d := dd_Told___init__) rfl⟩
    d_told_eq := ⟨c.1.d.def_ 60 (d := dd_Told___eq__) rfl⟩
    d_table_init := ⟨c.1.d.def_ 61 (d := dd_Table___init__) rfl⟩
    d_table_answer := ⟨c.1.d.def_ 62 (d := dd_Table_answer) rfl⟩
    meth_answer := He.meth_ok (hfa_mem c 91 (f := .meth "Table" "answer"))
    MOST_TOLD_mg := He.int_ok X G (hfa_mem c 78 (f := .int "MOST_TOLD" 80))
    TABLE_WORLDS_mg := He.int_ok X G (hfa_mem c 79 (f := .int "TABLE_WORLDS" 6))
    WISHES_mg := He.glo_ok X G (hfa_mem c 63 (f := .glo "WISHES"))
    KINDS_mg := He.glo_ok X G (hfa_mem c 64 (f := .glo "KINDS"))
    KIND_WISHES_mg := He.glo_ok X G (hfa_mem c 65 (f := .glo "KIND_WISHES"))
    wishes := fun H => He.tupB_ok e3 H
    kinds := fun H => He.tupB_ok e4 H }
theorem te_o (X : K.In h) (G : h.Ns mainGlobals mg) (c : SaysY w K) (e : exAll K "BadOrder" "place" = true) : PySem.LowX.BadOrderX.LowTxt K mg (He.ga K "BadOrder") (He.ma K (He.ga K "BadOrder") "__init__") := by
  obtain ⟨h1, e⟩ := He.ba e
  obtain ⟨h2, e⟩ := He.ba e
  obtain ⟨h3, e⟩ := He.ba e
  obtain ⟨h4, e⟩ := He.ba e
  obtain ⟨h5, e⟩ := He.ba e
  obtain ⟨h6, e⟩ := He.ba e
  obtain ⟨h7, e⟩ := He.ba e
  obtain ⟨h8, e⟩ := He.ba e
  obtain ⟨h9, e⟩ := He.ba e
  obtain ⟨h10, e⟩ := He.ba e
  obtain ⟨h11, h12⟩ := He.ba e
  obtain ⟨fd, F⟩ := c.1.d.def_ 64 (d := dd_BadOrder___init__) rfl
  obtain ⟨oc, od, dV, kV, doc, pm, an, cdv, ct, osl, rfl, lk, hcd, hD, _⟩ := F.ex
  have dn : dV = .none := by
    rcases hD with ⟨_, z⟩ | ⟨z, _⟩
    · exact z
    · exact absurd rfl z
  subst dn
  have g : mg "BadOrder" = some (.ref (He.ga K "BadOrder")) := He.glo_ok X G (hfa_mem c 61 (f := .glo "BadOrder"))
  exact ⟨g, exShape_ok h1, He.eqO_ok h2, He.eqO_ok h3, He.eqO_ok h4, He.eqO_ok h5, He.eqO_ok h6, of_decide_eq_true h7, h8, of_decide_eq_true h9, of_decide_eq_true h10, h11, of_decide_eq_true h12,
    ⟨oc, od, kV, doc, pm, an, cdv, ct, osl, _, _, _, _, _, _, lk, hcd⟩⟩
theorem te_n (X : K.In h) (G : h.Ns mainGlobals mg) (c : SaysY w K) (e : exAll K "BadNumber" "name" = true) : PySem.LowX.BadNumberX.LowTxt K mg (He.ga K "BadNumber") (He.ma K (He.ga K "BadNumber") "__init__") := by
  obtain ⟨h1, e⟩ := He.ba e
  obtain ⟨h2, e⟩ := He.ba e
  obtain ⟨h3, e⟩ := He.ba e
  obtain ⟨h4, e⟩ := He.ba e
  obtain ⟨h5, e⟩ := He.ba e
  obtain ⟨h6, e⟩ := He.ba e
  obtain ⟨h7, e⟩ := He.ba e
  obtain ⟨h8, e⟩ := He.ba e
  obtain ⟨h9, e⟩ := He.ba e
  obtain ⟨h10, e⟩ := He.ba e
  obtain ⟨h11, h12⟩ := He.ba e
  obtain ⟨fd, F⟩ := c.1.d.def_ 63 (d := dd_BadNumber___init__) rfl
  obtain ⟨oc, od, dV, kV, doc, pm, an, cdv, ct, osl, rfl, lk, hcd, hD, _⟩ := F.ex
  have dn : dV = .none := by
    rcases hD with ⟨_, z⟩ | ⟨z, _⟩
    · exact z
    · exact absurd rfl z
  subst dn
  have g : mg "BadNumber" = some (.ref (He.ga K "BadNumber")) := He.glo_ok X G (hfa_mem c 62 (f := .glo "BadNumber"))
  exact ⟨g, exShape_ok h1, He.eqO_ok h2, He.eqO_ok h3, He.eqO_ok h4, He.eqO_ok h5, He.eqO_ok h6, of_decide_eq_true h7, h8, of_decide_eq_true h9, of_decide_eq_true h10, h11, of_decide_eq_true h12,
    ⟨oc, od, kV, doc, pm, an, cdv, ct, osl, _, _, _, _, _, _, lk, hcd⟩⟩
theorem te_of (X : K.In h) (G : h.Ns mainGlobals mg) (c : SaysY w K) : Te K mg := by
  obtain ⟨e1, e⟩ := He.ba (show exB K = true from c.2)
  obtain ⟨e2, e⟩ := He.ba e
  exact ⟨te_o X G c e1, te_n X G c e2⟩
theorem tq_of (c : SaysY w K) : Tq K := by
  obtain ⟨e1, e⟩ := He.ba (show exB K = true from c.2)
  obtain ⟨e2, e⟩ := He.ba e
  obtain ⟨e3, e⟩ := He.ba e
  obtain ⟨e4, e⟩ := He.ba e
  obtain ⟨e5, e⟩ := He.ba e
  obtain ⟨e6, e⟩ := He.ba e
  obtain ⟨e7, e⟩ := He.ba e
  obtain ⟨e8, e⟩ := He.ba e
  obtain ⟨e9, e10⟩ := He.ba e
  have m := He.meth_ok (hfa_mem c 92 (f := .meth "Told" "__eq__"))
  exact ⟨He.eqO_ok e7, He.eqO_ok e8, of_decide_eq_true e9, of_decide_eq_true e10, by unfold PySem.W.kitOne; rw [if_pos (beq_self_eq_true _)], m.1, m.2⟩
theorem tw_of (c : SaysY w K) : Tw K w := by
  obtain ⟨e1, e⟩ := He.ba (show exB K = true from c.2)
  obtain ⟨e2, e⟩ := He.ba e
  obtain ⟨e3, e⟩ := He.ba e
  obtain ⟨e4, e⟩ := He.ba e
  obtain ⟨e5, e⟩ := He.ba e
  obtain ⟨e6, e⟩ := He.ba e
  obtain ⟨es, n, k1, k2, k3⟩ := c.1.tab 0 (t := (fun K => He.ga K "KIND_WISHES", ["ringless", "orders", "parts", "stretches", "rank", "strict"])) rfl
  exact ⟨⟨kwO K, ⟨es, n, _, k1, k2, He.eqO_ok e5, rfl⟩, fun H => tupAtB_ok e6 H⟩⟩
end
end K37
set_option maxHeartbeats 0
/-! K37RUN: the head runs -/
namespace K37H
open PySem PySem.W PySem.Calls PyProof.Rows
abbrev R : OpenRow := OpenLaw.row PySem.Challenge.rw_newsbooks_k37_whole_made_of_orders
abbrev qv : Program := view R.prog [85]
def names0 : List PySem.Str := [("_wall" : PySem.Str), ("NewsError" : PySem.Str), ("BadNumber" : PySem.Str), ("BadLot" : PySem.Str), ("BadTable" : PySem.Str), ("BadCase" : PySem.Str), ("BadFamily" : PySem.Str), ("BadOrder" : PySem.Str), ("BadWord" : PySem.Str), ("OtherWorlds" : PySem.Str), ("TooMany" : PySem.Str), ("whole_number" : PySem.Str), ("is_row" : PySem.Str), ("check_worlds" : PySem.Str), ("is_world" : PySem.Str), ("first_stranger" : PySem.Str), ("lot_of" : PySem.Str), ("every" : PySem.Str), ("plus" : PySem.Str), ("minus" : PySem.Str), ("inside" : PySem.Str), ("lot_list" : PySem.Str), ("MOST_TOLD" : PySem.Str), ("_told_pair" : PySem.Str), ("_told_steps" : PySem.Str), ("Told" : PySem.Str), ("told_family" : PySem.Str), ("told_of" : PySem.Str), ("_said_order" : PySem.Str), ("fits_told" : PySem.Str), ("_next_taken" : PySem.Str), ("_taken_and_left" : PySem.Str), ("torn_told" : PySem.Str), ("narrowed_told" : PySem.Str), ("_order_or_tear" : PySem.Str), ("orders_told" : PySem.Str)]
def names1 : List PySem.Str := [("why_no_orders" : PySem.Str), ("TABLE_WORLDS" : PySem.Str), ("check_table_worlds" : PySem.Str), ("lot_or_none" : PySem.Str), ("table_pair" : PySem.Str), ("Table" : PySem.Str), ("lot_bits" : PySem.Str), ("bits_lot" : PySem.Str), ("WISHES" : PySem.Str), ("KINDS" : PySem.Str), ("KIND_WISHES" : PySem.Str), ("pair_breaks" : PySem.Str), ("first_break" : PySem.Str), ("has_wish" : PySem.Str), ("is_kind" : PySem.Str), ("_law_draws" : PySem.Str), ("_law_take" : PySem.Str), ("_law_int" : PySem.Str), ("_law_lots" : PySem.Str), ("_law_lot" : PySem.Str), ("_law_some" : PySem.Str), ("_law_common" : PySem.Str), ("_law_plus" : PySem.Str), ("_law_inside" : PySem.Str), ("_law_size" : PySem.Str), ("_law_handed" : PySem.Str), ("_law_says" : PySem.Str), ("_law_orders" : PySem.Str), ("_law_first" : PySem.Str), ("_law_order_fits" : PySem.Str), ("_law_torn" : PySem.Str), ("_law_greatest_torn" : PySem.Str), ("_law_spoil" : PySem.Str), ("_law_made" : PySem.Str), ("_law_order_refused" : PySem.Str), ("_law_place_refused" : PySem.Str)]
def names2 : List PySem.Str := [("_law_refusals" : PySem.Str), ("_law_order_good" : PySem.Str), ("_law_wanted" : PySem.Str), ("_law_lacking" : PySem.Str), ("_law_judged" : PySem.Str)]
def names : List PySem.Str := names0 ++ names1 ++ names2
abbrev hk : PySem.W.Hook := K37.hookY
def ob (s : PySem.W.SharedT) : K37.AlY := K37.obsY (HandSHeadRun.getT s)
theorem ob_eq (s : PySem.W.SharedT) : ob s = hk.obs s.abs := K37.obsY_eq (HandSHeadRun.getT_eq s)
theorem run0 (w : World) : HandSHeadRun.RunEq R qv hk ob 6500 names (w.withFollow "special-get-raises" false) := by
  intro os
  kernel_rfl
theorem run1 (w : World) : HandSHeadRun.RunEq R qv hk ob 6500 names (w.withFollow "special-get-raises" true) := by
  intro os
  kernel_rfl
theorem run (w : World) : HandSHeadRun.RunEq R qv hk ob 6500 names w := byRow2 "special-get-raises" (P := fun w => HandSHeadRun.RunEq R qv hk ob 6500 names w) run0 run1 w
end K37H
/-! K37END: the law holds -/
namespace K37
open PySem PyProof.Rows L2
theorem law_facts {P : Program} {w : World} {K : PySem.W.Frag} {h : Heap} {mg : PySem.Str → Option Value} {f : Addr} (X : K.In h) (G : h.Ns mainGlobals mg) (hfa : mg ("law" : PySem.Str) = some (.ref f)) (c : SaysY w K) :
    ∃ fd : FuncData, (∀ (s : Shared) (v : Value), BindsTo s fd ⟨[v], []⟩ [("_law_script", v)]) ∧ ∀ base : Heap, K.In base → base.Ns mainGlobals mg → FnOk P w K mg base CX0 12 f fd ["_law_script"] (spLaw K) := by
  have T := tx_of X G c
  obtain ⟨fd, F⟩ := T.d_law.fn
  have e := hfa.symm.trans T.d_law.mg
  cases e
  have b := FunD.bindsA (ps := ["_law_script"]) F fun _ _ _ _ _ _ us hl => match us, hl with | [_], _ => rfl
  exact ⟨fd, fun s v => b s [v] rfl, fun base _ _ => ok_law F T (te_of X G c) (tq_of c) (tw_of c) plain_holds⟩
end K37
open PySem PySem.W PySem.Calls PyProof.Rows
theorem PySem.Challenge.cw_newsbooks_k37_whole_made_of_orders_holds : PySem.Challenge.rw_newsbooks_k37_whole_made_of_orders.Holds := by
  w_on; o_law
  refine HandSHeadRun.head_any (r := OpenLaw.row PySem.Challenge.rw_newsbooks_k37_whole_made_of_orders) (q := view (OpenLaw.row PySem.Challenge.rw_newsbooks_k37_whole_made_of_orders).prog [85]) (H := K37H.hk) (ob := K37H.ob) (M := 6500) (loose := K37H.names) (d := HandSHeadRun.topDef (OpenLaw.row PySem.Challenge.rw_newsbooks_k37_whole_made_of_orders).prog 85) (kwd := []) K37H.ob_eq
    (by kernel_rfl) (fun s => by kernel_rfl) K37H.run (by kernel_rfl) (by kernel_rfl) (by kernel_rfl) (by rfl) (by first | assumption | decide +kernel) (by decide +kernel) ⟨rfl, rfl, rfl, rfl, rfl, by decide +kernel⟩ ?hw ?hc
  case hw => w_witness2
  case hc =>
    refine L2.walk_ofE (l := PySem.Challenge.rw_newsbooks_k37_whole_made_of_orders) (n := 63) (k := 12) (x := "_law_script") (CX := L2.CX0) rfl (by decide) (by kernel_rfl) ⟨rfl, by decide, by decide⟩ ?F (fun _ _ _ _ z => z)
    intro w mg fa h Y G hmg0
    obtain ⟨K, KX, c⟩ := Y
    have hmg : mg ("law" : PySem.Str) = some (.ref fa) := by
      have e : (HandSHeadRun.topDef (OpenLaw.row PySem.Challenge.rw_newsbooks_k37_whole_made_of_orders).prog 85).name = ("law" : PySem.Str) := by kernel_rfl
      rw [← e]
      exact hmg0
    obtain ⟨fd, hb, hF⟩ := K37.law_facts (P := (PySem.Challenge.rw_newsbooks_k37_whole_made_of_orders).prog) (w := w) KX G hmg c
    exact ⟨K, fd, K37.spLaw K, KX, hb, fun H a ns hl _ hS => ⟨a, ns, rfl, hS, fun _ => rfl⟩, hF⟩
