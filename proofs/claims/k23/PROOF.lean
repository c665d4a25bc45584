import PyProof.Rows.All
import Wide.All
import OpenK.AllK
import Wide.FinOn
import HandS.Defaults
import HandS.DictComp
import HandS.Finally
import HandS.ForMost
import HandS.IsInst
import HandS.ListItems
import HandS.More
import HandS.NoneIn
import HandS.OwnEq
import HandS.SetKeys
import HandS.SortOrd
import HandS.SortRule
import HandS.Star
import HandS.Style
import HandS.Text
import HandS.TupAny
import HandS.TupLe
import HandS.Wide
import HandS.WideBits
import HandS.Words
import HandS.Zip
import KE.KEqDict
import KE.KEqNest
import KE.LtSeq
import PySem.Challenge.RW_endswell_k23_whole_rescues
set_option Elab.async false
set_option linter.all false
set_option maxRecDepth 100000
set_option maxHeartbeats 4000000
/-! ## DL0 -/
/-! DL0: data-level states over the hand layer: what a value stands for (Rep), frozen and owned objects (Sta), what a step leaves (Out), readings at data level (DE ..). -/
namespace DL
open PySem PySem.Spec PyProof.Rows L2

inductive D where
  | non | bl (b : Bool) | int (i : Int) | str (x : Str) | ty (n : String)
  | adr (a : Addr)
  | lst (xs : List D) | tup (xs : List D)
  | dk (kvs : List (Key × D)) | dt (kvs : List (List Key × D))
  | obj (C : Addr) (fs : List (Str × D))

section
variable (F : Hp)
mutual
def Rep : D → V → Prop
  | .non, v => v = .non
  | .bl b, v => v = .bl b
  | .int i, v => v = .int i
  | .str x, v => v = .str x
  | .ty n, v => v = .ty n
  | .adr a, v => v = .ref a
  | .lst ds, v => ∃ a vs, v = .ref a ∧ F a = some (.lst vs) ∧ Reps ds vs
  | .tup ds, v => ∃ a vs, v = .ref a ∧ F a = some (.tup vs) ∧ Reps ds vs
  | .dk kds, v => ∃ a kvs o, v = .ref a ∧ F a = some (.frz o (.dK kvs)) ∧ RepK kds kvs
  | .dt kds, v => ∃ a kvs o, v = .ref a ∧ F a = some (.frz o (.dT kvs)) ∧ RepT kds kvs
  | .obj C fds, v => ∃ a dx fs, v = .ref a ∧ F a = some (.ins C dx fs) ∧ RepF fds fs
def Reps : List D → List V → Prop
  | [], vs => vs = []
  | d :: ds, vs => ∃ v r, vs = v :: r ∧ Rep d v ∧ Reps ds r
def RepK : List (Key × D) → List (Key × V) → Prop
  | [], r => r = []
  | (k, d) :: ds, r => ∃ v t, r = (k, v) :: t ∧ Rep d v ∧ RepK ds t
def RepT : List (List Key × D) → List (List Key × V) → Prop
  | [], r => r = []
  | (k, d) :: ds, r => ∃ v t, r = (k, v) :: t ∧ Rep d v ∧ RepT ds t
def RepF : List (Str × D) → List (Str × V) → Prop
  | [], r => r = []
  | (k, d) :: ds, r => ∃ v t, r = (k, v) :: t ∧ Rep d v ∧ RepF ds t
end
end

theorem _root_.L2.Same.rd {F F' : Hp} {a : Addr} {u : HO} (e : Same F F') (h : Rd F a u) : Rd F' a u := by
  rcases h with h | ⟨o, h⟩
  · exact .inl (e _ _ h)
  · exact .inr ⟨o, e _ _ h⟩
theorem _root_.L2.Same.tup {K : PySem.W.Frag} {F F' : Hp} {a : Addr} {xs : List V} (e : Same F F') (h : SqT K F a xs) : SqT K F' a xs := by
  rcases h with h | h
  · exact .inl (e.rd h)
  · exact .inr h

section
variable {F F' : Hp}
mutual
theorem Rep.mono (g : Same F F') : ∀ (d : D) {v : V}, Rep F d v → Rep F' d v
  | .non, _, h => by simpa only [Rep] using h
  | .bl _, _, h => by simpa only [Rep] using h
  | .int _, _, h => by simpa only [Rep] using h
  | .str _, _, h => by simpa only [Rep] using h
  | .ty _, _, h => by simpa only [Rep] using h
  | .adr _, _, h => by simpa only [Rep] using h
  | .lst ds, _, h => by
    simp only [Rep] at h ⊢
    obtain ⟨a, vs, h1, h2, h3⟩ := h
    exact ⟨a, vs, h1, g _ _ h2, Reps.mono g ds h3⟩
  | .tup ds, _, h => by
    simp only [Rep] at h ⊢
    obtain ⟨a, vs, h1, h2, h3⟩ := h
    exact ⟨a, vs, h1, g _ _ h2, Reps.mono g ds h3⟩
  | .dk ds, _, h => by
    simp only [Rep] at h ⊢
    obtain ⟨a, vs, o, h1, h2, h3⟩ := h
    exact ⟨a, vs, o, h1, g _ _ h2, RepK.mono g ds h3⟩
  | .dt ds, _, h => by
    simp only [Rep] at h ⊢
    obtain ⟨a, vs, o, h1, h2, h3⟩ := h
    exact ⟨a, vs, o, h1, g _ _ h2, RepT.mono g ds h3⟩
  | .obj C ds, _, h => by
    simp only [Rep] at h ⊢
    obtain ⟨a, dx, vs, h1, h2, h3⟩ := h
    exact ⟨a, dx, vs, h1, g _ _ h2, RepF.mono g ds h3⟩
theorem Reps.mono (g : Same F F') : ∀ (ds : List D) {vs : List V}, Reps F ds vs → Reps F' ds vs
  | [], _, h => by simpa only [Reps] using h
  | d :: ds, _, h => by
    simp only [Reps] at h ⊢
    obtain ⟨v, r, h1, h2, h3⟩ := h
    exact ⟨v, r, h1, Rep.mono g d h2, Reps.mono g ds h3⟩
theorem RepK.mono (g : Same F F') : ∀ (ds : List (Key × D)) {vs : List (Key × V)}, RepK F ds vs → RepK F' ds vs
  | [], _, h => by simpa only [RepK] using h
  | (k, d) :: ds, _, h => by
    simp only [RepK] at h ⊢
    obtain ⟨v, r, h1, h2, h3⟩ := h
    exact ⟨v, r, h1, Rep.mono g d h2, RepK.mono g ds h3⟩
theorem RepT.mono (g : Same F F') : ∀ (ds : List (List Key × D)) {vs : List (List Key × V)}, RepT F ds vs → RepT F' ds vs
  | [], _, h => by simpa only [RepT] using h
  | (k, d) :: ds, _, h => by
    simp only [RepT] at h ⊢
    obtain ⟨v, r, h1, h2, h3⟩ := h
    exact ⟨v, r, h1, Rep.mono g d h2, RepT.mono g ds h3⟩
theorem RepF.mono (g : Same F F') : ∀ (ds : List (Str × D)) {vs : List (Str × V)}, RepF F ds vs → RepF F' ds vs
  | [], _, h => by simpa only [RepF] using h
  | (k, d) :: ds, _, h => by
    simp only [RepF] at h ⊢
    obtain ⟨v, r, h1, h2, h3⟩ := h
    exact ⟨v, r, h1, Rep.mono g d h2, RepF.mono g ds h3⟩
end
theorem Reps.length : ∀ {ds : List D} {vs : List V}, Reps F ds vs → vs.length = ds.length
  | [], _, h => by simp only [Reps] at h; subst h; rfl
  | d :: ds, _, h => by
    simp only [Reps] at h
    obtain ⟨v, r, rfl, _, h3⟩ := h
    simp [Reps.length h3]
theorem Reps.get : ∀ {ds : List D} {vs : List V} {i : Nat} {d : D}, Reps F ds vs → ds[i]? = some d → ∃ v, vs[i]? = some v ∧ Rep F d v
  | [], _, _, _, _, h => by simp at h
  | d :: ds, _, 0, _, h, e => by
    simp only [Reps] at h
    obtain ⟨v, r, rfl, h2, _⟩ := h
    simp at e
    subst e
    exact ⟨v, rfl, h2⟩
  | d :: ds, _, i + 1, _, h, e => by
    simp only [Reps] at h
    obtain ⟨v, r, rfl, _, h3⟩ := h
    obtain ⟨u, h1, h2⟩ := Reps.get (i := i) h3 (by simpa using e)
    exact ⟨u, by simpa using h1, h2⟩
theorem Reps.of_get : ∀ {ds : List D} {vs : List V} {i : Nat} {v : V}, Reps F ds vs → vs[i]? = some v → ∃ d, ds[i]? = some d ∧ Rep F d v := fun {ds vs i v} h e => by
  have hl := h.length
  have hi : i < ds.length := by
    rw [← hl]
    exact (List.getElem?_eq_some_iff.mp e).1
  obtain ⟨u, h1, h2⟩ := h.get (i := i) (d := ds[i]) (by simp [hi])
  rw [e] at h1
  cases h1
  exact ⟨_, by simp [hi], h2⟩
theorem Reps.app : ∀ {ds es : List D} {vs us : List V}, Reps F ds vs → Reps F es us → Reps F (ds ++ es) (vs ++ us)
  | [], _, _, _, h, k => by simp only [Reps] at h; subst h; simpa using k
  | d :: ds, _, _, _, h, k => by
    simp only [Reps] at h
    obtain ⟨v, r, rfl, h2, h3⟩ := h
    simp only [List.cons_append, Reps]
    exact ⟨v, _, rfl, h2, Reps.app h3 k⟩
theorem Reps.one {d : D} {v : V} (h : Rep F d v) : Reps F [d] [v] := by
  simp only [Reps]
  exact ⟨v, [], rfl, h, rfl⟩
theorem Reps.nil : Reps F [] [] := by simp only [Reps]
theorem Reps.cons {d : D} {v : V} {ds : List D} {vs : List V} (h : Rep F d v) (t : Reps F ds vs) : Reps F (d :: ds) (v :: vs) := by
  simp only [Reps]
  exact ⟨v, vs, rfl, h, t⟩
theorem Reps.take : ∀ {ds : List D} {vs : List V} (n : Nat), Reps F ds vs → Reps F (ds.take n) (vs.take n)
  | [], _, n, h => by simp only [Reps] at h; subst h; simp [Reps]
  | d :: ds, _, 0, h => by simp [Reps]
  | d :: ds, _, n + 1, h => by
    simp only [Reps] at h
    obtain ⟨v, r, rfl, h2, h3⟩ := h
    simp only [List.take_succ_cons, Reps]
    exact ⟨v, _, rfl, h2, Reps.take n h3⟩
theorem Reps.drop : ∀ {ds : List D} {vs : List V} (n : Nat), Reps F ds vs → Reps F (ds.drop n) (vs.drop n)
  | [], _, n, h => by simp only [Reps] at h; subst h; simp [Reps]
  | d :: ds, _, 0, h => by simpa using h
  | d :: ds, _, n + 1, h => by
    simp only [Reps] at h
    obtain ⟨v, r, rfl, h2, h3⟩ := h
    simpa using Reps.drop n h3
theorem Reps.rev {ds : List D} : ∀ {vs : List V}, Reps F ds vs → Reps F ds.reverse vs.reverse := by
  induction ds with
  | nil => intro vs h; simp only [Reps] at h; subst h; simp [Reps]
  | cons d ds ih =>
    intro vs h
    simp only [Reps] at h
    obtain ⟨v, r, rfl, h2, h3⟩ := h
    simp only [List.reverse_cons]
    exact (ih h3).app (.one h2)
theorem Reps.set : ∀ {ds : List D} {vs : List V} (n : Nat) {d : D} {v : V}, Reps F ds vs → Rep F d v → Reps F (ds.set n d) (vs.set n v)
  | [], _, n, _, _, h, _ => by simp only [Reps] at h; subst h; simp [Reps]
  | d :: ds, _, 0, _, _, h, q => by
    simp only [Reps] at h
    obtain ⟨v, r, rfl, h2, h3⟩ := h
    simp only [List.set_cons_zero, Reps]
    exact ⟨_, _, rfl, q, h3⟩
  | d :: ds, _, n + 1, _, _, h, q => by
    simp only [Reps] at h
    obtain ⟨v, r, rfl, h2, h3⟩ := h
    simp only [List.set_cons_succ, Reps]
    exact ⟨_, _, rfl, h2, Reps.set n h3 q⟩
theorem Reps.erase : ∀ {ds : List D} {vs : List V} (n : Nat), Reps F ds vs → Reps F (ds.eraseIdx n) (vs.eraseIdx n)
  | [], _, n, h => by simp only [Reps] at h; subst h; simp [Reps]
  | d :: ds, _, 0, h => by
    simp only [Reps] at h
    obtain ⟨v, r, rfl, h2, h3⟩ := h
    simpa using h3
  | d :: ds, _, n + 1, h => by
    simp only [Reps] at h
    obtain ⟨v, r, rfl, h2, h3⟩ := h
    simp only [List.eraseIdx_cons_succ, Reps]
    exact ⟨_, _, rfl, h2, Reps.erase n h3⟩
theorem Reps.isEmpty {ds : List D} {vs : List V} (h : Reps F ds vs) : vs.isEmpty = ds.isEmpty := by
  cases ds with
  | nil => simp only [Reps] at h; subst h; rfl
  | cons d ds =>
    simp only [Reps] at h
    obtain ⟨v, r, rfl, _⟩ := h
    rfl
/-- ints, texts, truths: the values are the data's own -/
theorem Reps.map_of {α : Type} {f : α → D} {g : α → V} (h : ∀ x v, Rep F (f x) v ↔ v = g x) : ∀ {xs : List α} {vs : List V}, Reps F (xs.map f) vs ↔ vs = xs.map g
  | [], vs => by simp [Reps]
  | x :: xs, vs => by
    simp only [List.map_cons, Reps]
    constructor
    · rintro ⟨v, r, rfl, h1, h2⟩
      rw [(h x v).mp h1, (Reps.map_of h).mp h2]
    · rintro rfl
      exact ⟨_, _, rfl, (h x _).mpr rfl, (Reps.map_of h).mpr rfl⟩
theorem Reps.ints {xs : List Int} {vs : List V} : Reps F (xs.map D.int) vs ↔ vs = xs.map V.int := Reps.map_of (fun _ _ => by simp only [Rep])
theorem Reps.strs {xs : List Str} {vs : List V} : Reps F (xs.map D.str) vs ↔ vs = xs.map V.str := Reps.map_of (fun _ _ => by simp only [Rep])
theorem Reps.bls {xs : List Bool} {vs : List V} : Reps F (xs.map D.bl) vs ↔ vs = xs.map V.bl := Reps.map_of (fun _ _ => by simp only [Rep])

theorem RepK.keys : ∀ {ds : List (Key × D)} {vs : List (Key × V)}, RepK F ds vs → vs.map (·.1) = ds.map (·.1)
  | [], _, h => by simp only [RepK] at h; subst h; rfl
  | (k, d) :: ds, _, h => by
    simp only [RepK] at h
    obtain ⟨v, r, rfl, _, h3⟩ := h
    simp [RepK.keys h3]
theorem RepK.length {ds : List (Key × D)} {vs : List (Key × V)} (h : RepK F ds vs) : vs.length = ds.length := by
  simpa using congrArg List.length h.keys
theorem RepK.vals : ∀ {ds : List (Key × D)} {vs : List (Key × V)}, RepK F ds vs → Reps F (ds.map (·.2)) (vs.map (·.2))
  | [], _, h => by simp only [RepK] at h; subst h; simp [Reps]
  | (k, d) :: ds, _, h => by
    simp only [RepK] at h
    obtain ⟨v, r, rfl, h2, h3⟩ := h
    simp only [List.map_cons, Reps]
    exact ⟨_, _, rfl, h2, RepK.vals h3⟩
theorem RepT.keys : ∀ {ds : List (List Key × D)} {vs : List (List Key × V)}, RepT F ds vs → vs.map (·.1) = ds.map (·.1)
  | [], _, h => by simp only [RepT] at h; subst h; rfl
  | (k, d) :: ds, _, h => by
    simp only [RepT] at h
    obtain ⟨v, r, rfl, _, h3⟩ := h
    simp [RepT.keys h3]
theorem RepT.length {ds : List (List Key × D)} {vs : List (List Key × V)} (h : RepT F ds vs) : vs.length = ds.length := by
  simpa using congrArg List.length h.keys
theorem RepT.vals : ∀ {ds : List (List Key × D)} {vs : List (List Key × V)}, RepT F ds vs → Reps F (ds.map (·.2)) (vs.map (·.2))
  | [], _, h => by simp only [RepT] at h; subst h; simp [Reps]
  | (k, d) :: ds, _, h => by
    simp only [RepT] at h
    obtain ⟨v, r, rfl, h2, h3⟩ := h
    simp only [List.map_cons, Reps]
    exact ⟨_, _, rfl, h2, RepT.vals h3⟩
end

/-! ### the state -/
abbrev lim : Nat := 16777216
abbrev BIG : Nat := 1000000000000000000
theorem lim_eq : sizeLine = lim := sizeLine_eq
structure Mu where
  hot : List D
  n : Nat
/-- what a name holds: data, an owned cell, the purse -/
inductive S where
  | c (d : D) | hot (n : Nat) | pur
abbrev Rho := List (Option S)
/-- its content -/
def Mu.rd (μ : Mu) : S → D
  | .c d => d
  | .hot n => μ.hot.getD n (.ty "")
  | .pur => .ty ""
/-- more cells, more frozen -/
structure Ge (as as' : List Addr) (F F' : Hp) : Prop where
  pre : ∀ (n : Nat) a, as[n]? = some a → as'[n]? = some a
  ext : Same F F'
theorem Ge.refl {as : List Addr} {F : Hp} : Ge as as F F := ⟨fun _ _ h => h, Same.refl _⟩
theorem Ge.trans {as as' as2 : List Addr} {F F' F2 : Hp} (a : Ge as as' F F') (b : Ge as' as2 F' F2) : Ge as as2 F F2 := ⟨fun n x h => b.pre n x (a.pre n x h), a.ext.trans b.ext⟩
def RepS (pu : Option Addr) (as : List Addr) (F : Hp) : S → V → Prop
  | .c d, v => Rep F d v
  | .hot n, v => ∃ a, as[n]? = some a ∧ v = .ref a
  | .pur, v => ∃ a, pu = some a ∧ v = .ref a
theorem RepS.mono {pu : Option Addr} {as as' : List Addr} {F F' : Hp} (g : Ge as as' F F') {d : S} {v : V} (h : RepS pu as F d v) : RepS pu as' F' d v := by
  cases d with
  | c d => exact Rep.mono g.ext d h
  | hot n => obtain ⟨a, h1, h2⟩ := h; exact ⟨a, g.pre n a h1, h2⟩
  | pur => exact h

def PurseAt (H : Hp) (p : Addr) (n : Nat) : Prop := ∃ a b c d : Int, H p = some (.lst [.int a, .int b, .int c, .int d]) ∧ 0 ≤ a ∧ a < 10 ^ 480 ∧ 0 ≤ b ∧ b < 2147483629 ∧ 0 ≤ c ∧ c ≤ n ∧ 0 ≤ d ∧ d < 100
/-- an owned cell -/
def HotAt (F H : Hp) (a : Addr) : D → Prop
  | .lst ds => F a = none ∧ ∃ vs, H a = some (.lst vs) ∧ Reps F ds vs
  | .dk kds => F a = none ∧ ∃ kvs, H a = some (.dK kvs) ∧ RepK F kds kvs
  | .dt kds => F a = none ∧ ∃ kvs, H a = some (.dT kvs) ∧ RepT F kds kvs
  | .obj C fds => F a = none ∧ ∃ dx fs, H a = some (.ins C dx fs) ∧ RepF F fds fs
  | .ty _ => True
  | _ => False

structure Sta (pu : Option Addr) (as : List Addr) (F : Hp) (μ : Mu) (H : Hp) : Prop where
  le : Same F H
  len : as.length = μ.hot.length
  nd : as.Nodup
  hot : ∀ (n : Nat) a c, as[n]? = some a → μ.hot[n]? = some c → HotAt F H a c
  live : ∀ a ∈ as, H a ≠ none ∧ pu ≠ some a
  pur : ∀ p, pu = some p → F p = none ∧ PurseAt H p μ.n

structure Out (pu : Option Addr) (as : List Addr) (F H : Hp) (as' : List Addr) (F' H' : Hp) : Prop where
  ge : Ge as as' F F'
  keep : ∀ a o, H a = some o → pu ≠ some a → a ∉ as → H' a = some o
  new : ∀ a, F' a ≠ none → F a ≠ none ∨ H a = none ∨ a ∈ as
  dom : ∀ a ∈ as', a ∈ as ∨ H a = none
  alive : ∀ a, H a ≠ none → H' a ≠ none
section
variable {pu : Option Addr} {as as' as2 : List Addr} {F F' F2 H H' H2 : Hp} {μ : Mu}
theorem Out.refl : Out pu as F H as F H := ⟨.refl, fun _ _ h _ _ => h, fun _ h => .inl h, fun _ h => .inl h, fun _ h => h⟩
theorem Out.trans (a : Out pu as F H as' F' H') (b : Out pu as' F' H' as2 F2 H2) : Out pu as F H as2 F2 H2 := by
  refine ⟨a.ge.trans b.ge, fun x o h h1 h2 => ?_, fun x h => ?_, fun x h => ?_, fun x h => b.alive x (a.alive x h)⟩
  · refine b.keep x o (a.keep x o h h1 h2) h1 fun hx => ?_
    rcases a.dom x hx with q | q
    · exact h2 q
    · rw [h] at q; cases q
  · rcases b.new x h with q | q | q
    · exact a.new x q
    · right; left
      cases e : H x with
      | none => rfl
      | some o => exact absurd q (a.alive x (by rw [e]; simp))
    · rcases a.dom x q with q | q
      · exact .inr (.inr q)
      · exact .inr (.inl q)
  · rcases b.dom x h with q | q
    · exact a.dom x q
    · right
      cases e : H x with
      | none => rfl
      | some o => exact absurd q (a.alive x (by rw [e]; simp))
theorem HotAt.mono {a : Addr} {c : D} (h : HotAt F H a c) (g : Same F F') (hf : F' a = none ∨ ∀ x, F a = none → x) (hh : H' a = H a) : HotAt F' H' a c := by
  have ff : F a = none → F' a = none := fun z => hf.elim id fun w => w _ z
  cases c with
  | lst ds => obtain ⟨h1, vs, h2, h3⟩ := h; exact ⟨ff h1, vs, hh.trans h2, h3.mono g⟩
  | dk ds => obtain ⟨h1, vs, h2, h3⟩ := h; exact ⟨ff h1, vs, hh.trans h2, h3.mono g⟩
  | dt ds => obtain ⟨h1, vs, h2, h3⟩ := h; exact ⟨ff h1, vs, hh.trans h2, h3.mono g⟩
  | obj C ds => obtain ⟨h1, dx, vs, h2, h3⟩ := h; exact ⟨ff h1, dx, vs, hh.trans h2, h3.mono g⟩
  | ty _ => trivial
  | _ => exact h.elim
/-- a new frozen object -/
theorem Sta.new {p : Addr} {o : HO} (st : Sta pu as F μ H) (hp : H p = none) : Sta pu as (upd F p o) μ (upd H p o) ∧ Out pu as F H as (upd F p o) (upd H p o) := by
  have fp : F p = none := st.le.free hp
  have g : Ge as as F (upd F p o) := ⟨fun _ _ h => h, fun b u e => by rw [upd_ne (ne_of_none e fp)]; exact e⟩
  refine ⟨⟨fun b u e => ?_, st.len, st.nd, fun n a c h1 h2 => ?_, fun a ha => ?_, fun q e => ?_⟩, ⟨g, fun a u e _ _ => ?_, fun a e => ?_, fun _ h => .inl h, fun a h => ?_⟩⟩
  · by_cases hb : b = p
    · subst hb; rw [upd_same] at e ⊢; exact e
    · rw [upd_ne hb] at e ⊢; exact st.le b u e
  · have hm : a ∈ as := List.mem_of_getElem? h1
    have hne : a ≠ p := fun e => (st.live a hm).1 (e ▸ hp)
    refine (st.hot n a c h1 h2).mono g.ext ?_ (upd_ne hne)
    cases e : F a with
    | none => left; rw [upd_ne hne]; exact e
    | some x => right; intro _ z; cases z
  · have hne : a ≠ p := fun e => (st.live a ha).1 (e ▸ hp)
    rw [upd_ne hne]
    exact st.live a ha
  · obtain ⟨h1, a, b, c, d, h2, h3⟩ := st.pur q e
    have hne : q ≠ p := fun e => by rw [e, hp] at h2; cases h2
    exact ⟨by rw [upd_ne hne]; exact h1, a, b, c, d, by rw [upd_ne hne]; exact h2, h3⟩
  · rw [upd_ne (ne_of_none e hp)]; exact e
  · by_cases hb : a = p
    · subst hb; exact .inr (.inl hp)
    · rw [upd_ne hb] at e; exact .inl e
  · by_cases hb : a = p
    · subst hb; rw [upd_same]; simp
    · rw [upd_ne hb]; exact h
/-- a new owned object -/
theorem Sta.newHot {p : Addr} {o : HO} {c : D} (st : Sta pu as F μ H) (hp : H p = none) (hc : HotAt F (upd H p o) p c) : Sta pu (as ++ [p]) F ⟨μ.hot ++ [c], μ.n⟩ (upd H p o) ∧ Out pu as F H (as ++ [p]) F (upd H p o) := by
  have fp : F p = none := st.le.free hp
  have np : p ∉ as := fun h => (st.live p h).1 hp
  have g : Ge as (as ++ [p]) F F := ⟨fun n a h => by rw [List.getElem?_append_left (List.getElem?_eq_some_iff.mp h).1]; exact h, Same.refl _⟩
  refine ⟨⟨fun b u e => ?_, by simp [st.len], ?_, fun n a c' h1 h2 => ?_, fun a ha => ?_, fun q e => ?_⟩, ⟨g, fun a u e _ _ => ?_, fun a e => .inl e, fun a h => ?_, fun a h => ?_⟩⟩
  · rw [upd_ne (ne_of_none e fp)]; exact st.le b u e
  · rw [List.nodup_append]
    refine ⟨st.nd, by simp, fun a ha b hb => ?_⟩
    simp at hb
    subst hb
    exact fun e => np (e ▸ ha)
  · by_cases hn : n < as.length
    · rw [List.getElem?_append_left hn] at h1
      rw [List.getElem?_append_left (by rw [← st.len]; exact hn)] at h2
      have hm : a ∈ as := List.mem_of_getElem? h1
      have hne : a ≠ p := fun e => np (e ▸ hm)
      refine (st.hot n a c' h1 h2).mono g.ext ?_ (upd_ne hne)
      cases e : F a with
      | none => exact .inl rfl
      | some x => right; intro _ z; cases z
    · have : n = as.length := by
        have := (List.getElem?_eq_some_iff.mp h1).1
        simp at this
        omega
      subst this
      simp at h1
      rw [st.len] at h2
      simp at h2
      subst h1; subst h2
      exact hc
  · rcases List.mem_append.mp ha with ha | ha
    · have hne : a ≠ p := fun e => np (e ▸ ha)
      rw [upd_ne hne]
      exact st.live a ha
    · simp at ha
      subst ha
      rw [upd_same]
      refine ⟨by simp, fun e => ?_⟩
      obtain ⟨_, _, _, _, _, h2, _⟩ := st.pur _ e
      rw [hp] at h2; cases h2
  · obtain ⟨h1, a, b, c, d, h2, h3⟩ := st.pur q e
    have hne : q ≠ p := fun e => by rw [e, hp] at h2; cases h2
    exact ⟨h1, a, b, c, d, by rw [upd_ne hne]; exact h2, h3⟩
  · rw [upd_ne (ne_of_none e hp)]; exact e
  · rcases List.mem_append.mp h with h | h
    · exact .inl h
    · simp at h; subst h; exact .inr hp
  · by_cases hb : a = p
    · subst hb; rw [upd_same]; simp
    · rw [upd_ne hb]; exact h
/-- an owned object is written -/
theorem Sta.write {n : Nat} {a : Addr} {c c' : D} {o : HO} (st : Sta pu as F μ H) (ha : as[n]? = some a) (hc : HotAt F (upd H a o) a c') (hf : F a = none) : Sta pu as F ⟨μ.hot.set n c', μ.n⟩ (upd H a o) ∧ Out pu as F H as F (upd H a o) := by
  have hm : a ∈ as := List.mem_of_getElem? ha
  refine ⟨⟨fun b u e => ?_, by simp [st.len], st.nd, fun m b d h1 h2 => ?_, fun b hb => ?_, fun q e => ?_⟩, ⟨.refl, fun b u e _ hb => ?_, fun b e => .inl e, fun b h => .inl h, fun b h => ?_⟩⟩
  · rw [upd_ne (ne_of_none e hf)]; exact st.le b u e
  · by_cases hmn : m = n
    · subst hmn
      rw [ha] at h1; cases h1
      rw [List.getElem?_set_self (by rw [← st.len]; exact (List.getElem?_eq_some_iff.mp ha).1)] at h2
      cases h2
      exact hc
    · rw [List.getElem?_set_ne (Ne.symm hmn)] at h2
      have hne : b ≠ a := fun e => by
        subst e
        obtain ⟨l1, e1⟩ := List.getElem?_eq_some_iff.mp h1
        obtain ⟨l2, e2⟩ := List.getElem?_eq_some_iff.mp ha
        exact hmn ((List.getElem_inj st.nd).mp (e1.trans e2.symm))
      refine (st.hot m b d h1 h2).mono (Same.refl _) ?_ (upd_ne hne)
      cases e : F b with
      | none => exact .inl rfl
      | some x => right; intro _ z; cases z
  · by_cases e : b = a
    · subst e; rw [upd_same]; exact ⟨by simp, (st.live _ hm).2⟩
    · rw [upd_ne e]; exact st.live b hb
  · obtain ⟨h1, x, y, z, w, h2, h3⟩ := st.pur q e
    have hne : q ≠ a := fun z => (st.live a hm).2 (z ▸ e)
    exact ⟨h1, x, y, z, w, by rw [upd_ne hne]; exact h2, h3⟩
  · rw [upd_ne (fun (z : b = a) => hb (z.symm ▸ hm))]; exact e
  · by_cases e : b = a
    · subst e; rw [upd_same]; simp
    · rw [upd_ne e]; exact h
/-- an owned object is frozen: u is what stands there then -/
theorem Sta.freezeTo {n : Nat} {a : Addr} {c : D} {u : HO} (st : Sta pu as F μ H) (ha : as[n]? = some a) (hc : μ.hot[n]? = some c) (hf : F a = none) :
    Sta pu as (upd F a u) ⟨μ.hot.set n (.ty ""), μ.n⟩ (upd H a u) ∧ Out pu as F H as (upd F a u) (upd H a u) ∧ Same F (upd F a u) := by
  have hm : a ∈ as := List.mem_of_getElem? ha
  have g : Same F (upd F a u) := fun b u e => by rw [upd_ne (ne_of_none e hf)]; exact e
  refine ⟨⟨fun b u e => ?_, by simp [st.len], st.nd, fun m b d h1 h2 => ?_, fun b hb => ?_, fun p e => ?_⟩, ⟨⟨fun _ _ h => h, g⟩, fun b x e _ hb => ?_, fun b e => ?_, fun _ h => .inl h, fun b h => ?_⟩, g⟩
  · by_cases e2 : b = a
    · subst e2; rw [upd_same] at e ⊢; exact e
    · rw [upd_ne e2] at e ⊢; exact st.le b u e
  · by_cases hmn : m = n
    · subst hmn
      rw [List.getElem?_set_self (by rw [← st.len]; exact (List.getElem?_eq_some_iff.mp ha).1)] at h2
      cases h2
      trivial
    · rw [List.getElem?_set_ne (Ne.symm hmn)] at h2
      have hne : b ≠ a := fun e => by
        subst e
        obtain ⟨l1, e1⟩ := List.getElem?_eq_some_iff.mp h1
        obtain ⟨l2, e2⟩ := List.getElem?_eq_some_iff.mp ha
        exact hmn ((List.getElem_inj st.nd).mp (e1.trans e2.symm))
      refine (st.hot m b d h1 h2).mono g ?_ (upd_ne hne)
      cases e : F b with
      | none => left; rw [upd_ne hne]; exact e
      | some x => right; intro _ z; cases z
  · by_cases e : b = a
    · subst e; rw [upd_same]; exact ⟨by simp, (st.live _ hm).2⟩
    · rw [upd_ne e]; exact st.live b hb
  · obtain ⟨h1, x, y, z, w, h2, h3⟩ := st.pur p e
    have hne : p ≠ a := fun z => (st.live a hm).2 (z ▸ e)
    exact ⟨by rw [upd_ne hne]; exact h1, x, y, z, w, by rw [upd_ne hne]; exact h2, h3⟩
  · rw [upd_ne (fun (z : b = a) => hb (z.symm ▸ hm))]; exact e
  · by_cases e2 : b = a
    · subst e2; exact .inr (.inr hm)
    · rw [upd_ne e2] at e; exact .inl e
  · by_cases e : b = a
    · subst e; rw [upd_same]; simp
    · rw [upd_ne e]; exact h
theorem upd_self {a : Addr} {o : HO} (h : H a = some o) : upd H a o = H := by
  funext b
  by_cases e : b = a
  · subst e; rw [upd_same, h]
  · rw [upd_ne e]
/-- a new object p that is frozen at once as u -/
theorem Sta.newAs {p : Addr} {o u : HO} (st : Sta pu as F μ H) (hp : H p = none) : Sta pu as (upd F p u) μ (upd (upd H p o) p u) ∧ Out pu as F H as (upd F p u) (upd (upd H p o) p u) := by
  rw [upd_upd]
  exact st.new hp
/-- a callee sees no owned cell -/
theorem Sta.forget (st : Sta pu as F μ H) : Sta pu [] F ⟨[], μ.n⟩ H :=
  ⟨st.le, rfl, List.nodup_nil, fun n a c h1 _ => by simp at h1, fun a h => by simp at h, st.pur⟩
theorem Sta.restore {asc : List Addr} {μ' : Mu} (st : Sta pu as F μ H) (o : Out pu [] F H asc F' H') (st' : Sta pu asc F' μ' H') : Sta pu as F' ⟨μ.hot, μ'.n⟩ H' ∧ Out pu as F H as F' H' := by
  refine ⟨⟨st'.le, st.len, st.nd, fun n a c h1 h2 => ?_, fun a ha => ⟨o.alive a (st.live a ha).1, (st.live a ha).2⟩, st'.pur⟩, ⟨⟨fun _ _ h => h, o.ge.ext⟩, fun a u e h1 _ => o.keep a u e h1 (by simp), fun a e => ?_, fun _ h => .inl h, o.alive⟩⟩
  · have hm : a ∈ as := List.mem_of_getElem? h1
    obtain ⟨l1, l2⟩ := st.live a hm
    have hh : H' a = H a := by
      cases e : H a with
      | none => exact absurd e l1
      | some u => exact o.keep a u e l2 (by simp)
    refine (st.hot n a c h1 h2).mono o.ge.ext ?_ hh
    cases e : F a with
    | some x => right; intro _ z; cases z
    | none =>
      left
      cases e2 : F' a with
      | none => rfl
      | some x =>
        rcases o.new a (by rw [e2]; simp) with q | q | q
        · exact absurd e q
        · exact absurd q l1
        · simp at q
  · rcases o.new a e with q | q | q
    · exact .inl q
    · exact .inr (.inl q)
    · simp at q
end
end DL
/-! ## DL1 -/
namespace DL
open PySem PySem.Spec PyProof.Rows L2

/-! ### the weakest readings -/
section
variable (X : Cx)
def WE (e : Expr) : TE := fun σ H Q => ∀ (pins : List (Addr × Obj)) (s : Shared), Inv X pins σ H s → wpAny (model X.prog X.w) X.A (eval e X.env) (EP X pins σ Q) X.xe s
def WT (e : Expr) : TT := fun σ H Q => ∀ (pins : List (Addr × Obj)) (s : Shared), Inv X pins σ H s → wpAny (model X.prog X.w) X.A (isTrue e X.env (eval e X.env)) (TP X pins σ Q) X.xe s
def WW (e : Expr) : TT := fun σ H Q => ∀ (whole : Sem Value) (pins : List (Addr × Obj)) (s : Shared), Inv X pins σ H s → wpAny (model X.prog X.w) X.A (isTrue e X.env whole) (TP X pins σ Q) X.xe s
def WA (es : List Expr) : TA := fun σ H Q => ∀ (pos : Pos) (pins : List (Addr × Obj)) (s : Shared), Inv X pins σ H s → wpAny (model X.prog X.w) X.A (spliced (backTo pos (starEach es X.env))) (AP X pins σ Q) X.xe s
def WS (st : Stmt) : TS := fun D σ H => ∀ (pins : List (Addr × Obj)) (s : Shared), Inv X pins σ H s → wpAny (model X.prog X.w) X.A (exec st X.env) (SP X pins D) X.xe s
def WSs (st : List Stmt) : TS := fun D σ H => ∀ (pins : List (Addr × Obj)) (s : Shared), Inv X pins σ H s → wpAny (model X.prog X.w) X.A (execs st X.env) (SP X pins D) X.xe s
def W2 (g : Value → Value → Sem Value) : R2 := fun x y H Q => ∀ (pins : List (Addr × Obj)) (s : Shared) (σ : L2.St) (v u : Value), Inv X pins σ H s → RelV x v → RelV y u → wpAny (model X.prog X.w) X.A (g v u) (EP X pins σ Q) X.xe s
def W1 (g : Value → Sem Value) : V → Hp → VK → Prop := fun x H Q => ∀ (pins : List (Addr × Obj)) (s : Shared) (σ : L2.St) (v : Value), Inv X pins σ H s → RelV x v → wpAny (model X.prog X.w) X.A (g v) (EP X pins σ Q) X.xe s
def WC (f : Value) : List V → Hp → VK → Prop := fun xs H Q => ∀ (pins : List (Addr × Obj)) (s : Shared) (σ : L2.St) (us : List Value), Inv X pins σ H s → Vals xs us → wpAny (model X.prog X.w) X.A (call f us) (EP X pins σ Q) X.xe s
def WIx : R2 := fun x y H Q => ∀ (value slice : Expr) (pins : List (Addr × Obj)) (s : Shared) (σ : L2.St) (v u : Value), Inv X pins σ H s → RelV x v → RelV y u → subscripted slice false v u = operate [v, u] (getItem v u) → wpAny (model X.prog X.w) X.A (subscriptTail value slice v u) (EP X pins σ Q) X.xe s
end
section
variable {X : Cx} {e : Expr} {es : List Expr} {st : Stmt} {sts : List Stmt} {σ : L2.St} {H : Hp}
theorem WE.pe : PE X e (WE X e) := ⟨fun pins s _ _ _ I h => h pins s I⟩
theorem WT.pt : PT X e (WT X e) := ⟨fun pins s _ _ _ I h => h pins s I⟩
theorem WW.pw : PW X e (WW X e) := ⟨fun w pins s _ _ _ I h => h w pins s I⟩
theorem WA.pa : PA X es (WA X es) := ⟨fun p pins s _ _ _ I h => h p pins s I⟩
theorem WS.ps : PS X st (WS X st) := ⟨fun pins s _ _ _ I h => h pins s I⟩
theorem WSs.pss : PSs X sts (WSs X sts) := ⟨fun pins s _ _ _ I h => h pins s I⟩
theorem WE.of {t : TE} {Q : VK} (h : PE X e t) (q : t σ H Q) : WE X e σ H Q := fun pins s I => h.run pins s σ H Q I q
theorem WT.of {t : TT} {Q : Bool → Hp → Prop} (h : PT X e t) (q : t σ H Q) : WT X e σ H Q := fun pins s I => h.run pins s σ H Q I q
theorem WW.of {t : TT} {Q : Bool → Hp → Prop} (h : PW X e t) (q : t σ H Q) : WW X e σ H Q := fun w pins s I => h.run w pins s σ H Q I q
theorem WA.of {t : TA} {Q : List V → Hp → Prop} (h : PA X es t) (q : t σ H Q) : WA X es σ H Q := fun p pins s I => h.run p pins s σ H Q I q
theorem WS.of {t : TS} {D : Ends} (h : PS X st t) (q : t D σ H) : WS X st D σ H := fun pins s I => h.run pins s σ H D I q
theorem WSs.of {t : TS} {D : Ends} (h : PSs X sts t) (q : t D σ H) : WSs X sts D σ H := fun pins s I => h.run pins s σ H D I q
theorem WE.mono {Q Q' : VK} (h : WE X e σ H Q) (k : ∀ v H', Q v H' → Q' v H') : WE X e σ H Q' := fun pins s I => thn (h pins s I) fun _ _ ⟨v, H', I', r, q⟩ => ⟨v, H', I', r, k v H' q⟩
theorem WT.mono {Q Q' : Bool → Hp → Prop} (h : WT X e σ H Q) (k : ∀ v H', Q v H' → Q' v H') : WT X e σ H Q' := fun pins s I => thn (h pins s I) fun _ _ ⟨H', I', q⟩ => ⟨H', I', k _ H' q⟩
theorem WW.mono {Q Q' : Bool → Hp → Prop} (h : WW X e σ H Q) (k : ∀ v H', Q v H' → Q' v H') : WW X e σ H Q' := fun w pins s I => thn (h w pins s I) fun _ _ ⟨H', I', q⟩ => ⟨H', I', k _ H' q⟩
theorem WA.mono {Q Q' : List V → Hp → Prop} (h : WA X es σ H Q) (k : ∀ v H', Q v H' → Q' v H') : WA X es σ H Q' := fun p pins s I => thn (h p pins s I) fun _ _ ⟨v, H', I', r, q⟩ => ⟨v, H', I', r, k v H' q⟩
theorem W2.op {g : Value → Value → Sem Value} : OpR X g (W2 X g) := fun pins s σ H x y v u Q I rx ry h => h pins s σ v u I rx ry
theorem W2.of {g : Value → Value → Sem Value} {r : R2} {x y : V} {Q : VK} (h : OpR X g r) (q : r x y H Q) : W2 X g x y H Q := fun pins s σ v u I rx ry => h pins s σ H x y v u Q I rx ry q
theorem W1.of {g : Value → Sem Value} {r : V → Hp → VK → Prop} {x : V} {Q : VK} (h : UnR X g r) (q : r x H Q) : W1 X g x H Q := fun pins s σ v I rx => h pins s σ H x v Q I rx q
theorem WC.op {f : Value} : CallR X f (WC X f) := fun pins s σ H xs us Q I r h => h pins s σ us I r
theorem WC.of {f : Value} {r : List V → Hp → VK → Prop} {xs : List V} {Q : VK} (h : CallR X f r) (q : r xs H Q) : WC X f xs H Q := fun pins s σ us I rx => h pins s σ H xs us Q I rx q
theorem WIx.op : IxR X (WIx X) := fun value slice pins s σ H x y v u Q I rx ry h hs => h value slice pins s σ v u I rx ry hs
theorem WIx.of {r : R2} {x y : V} {Q : VK} (h : IxR X r) (q : r x y H Q) : WIx X x y H Q := fun value slice pins s σ v u I rx ry hs => h value slice pins s σ H x y v u Q I rx ry q hs
end

/-! ### readings at data level -/
abbrev RE := Rho → Mu → (S → Mu → Prop) → Prop
abbrev RT := Rho → Mu → (Bool → Mu → Prop) → Prop
abbrev RA := Rho → Mu → (List S → Mu → Prop) → Prop
def RhoOk (pu : Option Addr) (as : List Addr) (F : Hp) (ρ : Rho) (σ : L2.St) : Prop :=
  ρ.length = σ.length ∧ ∀ (i : Nat) d, ρ[i]? = some (some d) → ∃ v, σ[i]? = some (some v) ∧ RepS pu as F d v
inductive RepSs (pu : Option Addr) (as : List Addr) (F : Hp) : List S → List V → Prop
  | nil : RepSs pu as F [] []
  | cons {d v ds vs} : RepS pu as F d v → RepSs pu as F ds vs → RepSs pu as F (d :: ds) (v :: vs)
def Qd (pu : Option Addr) (as : List Addr) (F H : Hp) (k : S → Mu → Prop) : VK := fun v H' => ∃ as' F' μ' d, Out pu as F H as' F' H' ∧ Sta pu as' F' μ' H' ∧ RepS pu as' F' d v ∧ k d μ'
def Qb (pu : Option Addr) (as : List Addr) (F H : Hp) (k : Bool → Mu → Prop) : Bool → Hp → Prop := fun b H' => ∃ as' F' μ', Out pu as F H as' F' H' ∧ Sta pu as' F' μ' H' ∧ k b μ'
def Ql (pu : Option Addr) (as : List Addr) (F H : Hp) (k : List S → Mu → Prop) : List V → Hp → Prop := fun vs H' => ∃ as' F' μ' ds, Out pu as F H as' F' H' ∧ Sta pu as' F' μ' H' ∧ RepSs pu as' F' ds vs ∧ k ds μ'
section
variable (X : Cx) (pu : Option Addr)
def DE (e : Expr) (t : RE) : Prop := ∀ as F μ H σ ρ k, Sta pu as F μ H → RhoOk pu as F ρ σ → t ρ μ k → WE X e σ H (Qd pu as F H k)
def DT (e : Expr) (t : RT) : Prop := ∀ as F μ H σ ρ k, Sta pu as F μ H → RhoOk pu as F ρ σ → t ρ μ k → WT X e σ H (Qb pu as F H k)
def DW (e : Expr) (t : RT) : Prop := ∀ as F μ H σ ρ k, Sta pu as F μ H → RhoOk pu as F ρ σ → t ρ μ k → WW X e σ H (Qb pu as F H k)
def DA (es : List Expr) (t : RA) : Prop := ∀ as F μ H σ ρ k, Sta pu as F μ H → RhoOk pu as F ρ σ → t ρ μ k → WA X es σ H (Ql pu as F H k)
end
section
variable {pu : Option Addr} {as as' : List Addr} {F F' H H' H2 : Hp} {μ : Mu} {ρ : Rho} {σ : L2.St}
theorem RhoOk.mono (h : RhoOk pu as F ρ σ) (g : Ge as as' F F') : RhoOk pu as' F' ρ σ := ⟨h.1, fun i d e => let ⟨v, a, b⟩ := h.2 i d e; ⟨v, a, b.mono g⟩⟩
theorem RepSs.mono (g : Ge as as' F F') {ds : List S} {vs : List V} (h : RepSs pu as F ds vs) : RepSs pu as' F' ds vs := by
  induction h with
  | nil => exact .nil
  | cons a _ ih => exact .cons (a.mono g) ih
theorem RepSs.cold {ds : List D} {vs : List V} (h : RepSs pu as F (ds.map S.c) vs) : Reps F ds vs := by
  induction ds generalizing vs with
  | nil => cases h; exact .nil
  | cons d ds ih =>
    cases h with
    | cons a b => exact .cons a (ih b)
theorem Qd.of {k : S → Mu → Prop} {v : V} {d : S} {μ' : Mu} (o : Out pu as F H as' F' H') (s : Sta pu as' F' μ' H') (r : RepS pu as' F' d v) (q : k d μ') : Qd pu as F H k v H' := ⟨as', F', μ', d, o, s, r, q⟩
theorem Qd.trans {k : S → Mu → Prop} {v : V} (o : Out pu as F H as' F' H') (q : Qd pu as' F' H' k v H2) : Qd pu as F H k v H2 := let ⟨a, b, c, d, o', r⟩ := q; ⟨a, b, c, d, o.trans o', r⟩
theorem Qb.trans {k : Bool → Mu → Prop} {v : Bool} (o : Out pu as F H as' F' H') (q : Qb pu as' F' H' k v H2) : Qb pu as F H k v H2 := let ⟨a, b, c, o', r⟩ := q; ⟨a, b, c, o.trans o', r⟩
theorem Ql.trans {k : List S → Mu → Prop} {v : List V} (o : Out pu as F H as' F' H') (q : Ql pu as' F' H' k v H2) : Ql pu as F H k v H2 := let ⟨a, b, c, d, o', r⟩ := q; ⟨a, b, c, d, o.trans o', r⟩

/-! ### reading a value -/
def RdAt (F H : Hp) : D → V → Prop
  | .lst ds, v => ∃ a vs, v = .ref a ∧ H a = some (.lst vs) ∧ Reps F ds vs
  | .tup ds, v => ∃ a vs, v = .ref a ∧ F a = some (.tup vs) ∧ Reps F ds vs
  | .dk ds, v => ∃ a vs, v = .ref a ∧ Rd H a (.dK vs) ∧ RepK F ds vs
  | .dt ds, v => ∃ a vs, v = .ref a ∧ Rd H a (.dT vs) ∧ RepT F ds vs
  | .obj C ds, v => ∃ a dx vs, v = .ref a ∧ H a = some (.ins C dx vs) ∧ RepF F ds vs
  | .ty _, _ => True
  | .non, v => v = .non
  | .bl b, v => v = .bl b
  | .int i, v => v = .int i
  | .str x, v => v = .str x
  | .adr a, v => v = .ref a
theorem rep_bl {b : Bool} : Rep F (.bl b) (.bl b) := by simp only [Rep]
theorem rep_int {b : Int} : Rep F (.int b) (.int b) := by simp only [Rep]
theorem rep_str {b : Str} : Rep F (.str b) (.str b) := by simp only [Rep]
theorem rep_non : Rep F .non .non := by simp only [Rep]
theorem Rep.rd {d : D} {v : V} (le : Same F H) (h : Rep F d v) : RdAt F H d v := by
  cases d with
  | lst ds => simp only [Rep] at h; obtain ⟨a, vs, h1, h2, h3⟩ := h; exact ⟨a, vs, h1, le _ _ h2, h3⟩
  | tup ds => simp only [Rep] at h; exact h
  | dk ds => simp only [Rep] at h; obtain ⟨a, vs, o, h1, h2, h3⟩ := h; exact ⟨a, vs, h1, .inr ⟨o, le _ _ h2⟩, h3⟩
  | dt ds => simp only [Rep] at h; obtain ⟨a, vs, o, h1, h2, h3⟩ := h; exact ⟨a, vs, h1, .inr ⟨o, le _ _ h2⟩, h3⟩
  | obj C ds => simp only [Rep] at h; obtain ⟨a, dx, vs, h1, h2, h3⟩ := h; exact ⟨a, dx, vs, h1, le _ _ h2, h3⟩
  | ty n => trivial
  | _ => simpa only [Rep, RdAt] using h
theorem Sta.rd {d : S} {v : V} (st : Sta pu as F μ H) (h : RepS pu as F d v) : RdAt F H (μ.rd d) v := by
  cases d with
  | c d => exact Rep.rd st.le h
  | pur => trivial
  | hot n =>
    obtain ⟨a, h1, rfl⟩ := h
    have hl : n < μ.hot.length := by rw [← st.len]; exact (List.getElem?_eq_some_iff.mp h1).1
    have q := st.hot n a (μ.hot[n]) h1 (by simp [hl])
    have e : μ.rd (.hot n) = μ.hot[n] := by simp [Mu.rd, hl]
    rw [e]
    generalize μ.hot[n] = c at q
    cases c with
    | lst ds => obtain ⟨_, vs, h2, h3⟩ := q; exact ⟨a, vs, rfl, h2, h3⟩
    | dk ds => obtain ⟨_, vs, h2, h3⟩ := q; exact ⟨a, vs, rfl, .inl h2, h3⟩
    | dt ds => obtain ⟨_, vs, h2, h3⟩ := q; exact ⟨a, vs, rfl, .inl h2, h3⟩
    | obj C ds => obtain ⟨_, dx, vs, h2, h3⟩ := q; exact ⟨a, dx, vs, rfl, h2, h3⟩
    | ty n => trivial
    | _ => exact q.elim
end
end DL
/-! ## DL2 -/
namespace DL
open PySem PySem.Spec PyProof.Rows L2

/-! ### what a value operation leaves -/
def Qc (F H : Hp) (k : D → Prop) : VK := fun v H' => (H' = H ∧ ∃ d, Rep F d v ∧ k d) ∨
  (∃ p o d, H p = none ∧ v = .ref p ∧ H' = upd H p o ∧ Rep (upd F p o) d (.ref p) ∧ k d) ∨
  (∃ p kvs kds, H p = none ∧ v = .ref p ∧ H' = upd H p (.dK kvs) ∧ RepK F kds kvs ∧ k (.dk kds)) ∨
  (∃ p kvs kds, H p = none ∧ v = .ref p ∧ H' = upd H p (.dT kvs) ∧ RepT F kds kvs ∧ k (.dt kds))
theorem Qc.same {F H : Hp} {k : D → Prop} {v : V} {d : D} (r : Rep F d v) (q : k d) : Qc F H k v H := .inl ⟨rfl, d, r, q⟩
theorem Qc.new {F H : Hp} {k : D → Prop} {p : Addr} {o : HO} {d : D} (hp : H p = none) (r : Rep (upd F p o) d (.ref p)) (q : k d) : Qc F H k (.ref p) (upd H p o) := .inr (.inl ⟨p, o, d, hp, rfl, rfl, r, q⟩)
theorem Qc.dict {F H : Hp} {k : D → Prop} {p : Addr} {kvs : List (Key × V)} {kds : List (Key × D)} (hp : H p = none) (r : RepK F kds kvs) (q : k (.dk kds)) : Qc F H k (.ref p) (upd H p (.dK kvs)) := .inr (.inr (.inl ⟨p, kvs, kds, hp, rfl, rfl, r, q⟩))
theorem same_upd {F : Hp} {p : Addr} {o : HO} (h : F p = none) : Same F (upd F p o) := fun b u e => by rw [upd_ne (ne_of_none e h)]; exact e
theorem Qc.lst {F H : Hp} {k : D → Prop} {p : Addr} {vs : List V} {ds : List D} (le : Same F H) (hp : H p = none) (r : Reps F ds vs) (q : k (.lst ds)) : Qc F H k (.ref p) (upd H p (.lst vs)) :=
  .new hp (by simp only [Rep]; exact ⟨p, vs, rfl, upd_same, r.mono (same_upd (le.free hp))⟩) q
theorem Qc.tup {F H : Hp} {k : D → Prop} {p : Addr} {vs : List V} {ds : List D} (le : Same F H) (hp : H p = none) (r : Reps F ds vs) (q : k (.tup ds)) : Qc F H k (.ref p) (upd H p (.tup vs)) :=
  .new hp (by simp only [Rep]; exact ⟨p, vs, rfl, upd_same, r.mono (same_upd (le.free hp))⟩) q

/-- .. at the states' level, a new dict not yet frozen -/
def Qn (pu : Option Addr) (as : List Addr) (F H : Hp) (k : S → Mu → Prop) : VK := fun v H' => ∃ as' F' H1 μ', Out pu as F H as' F' H1 ∧ Sta pu as' F' μ' H1 ∧ ((H' = H1 ∧ ∃ d, RepS pu as' F' d v ∧ k d μ') ∨ Qc F' H1 (fun d => k (.c d) μ') v H')
section
variable {X : Cx} {pu : Option Addr} {as as' : List Addr} {F F' H H' H2 : Hp} {μ : Mu} {ρ : Rho} {σ : L2.St} {e : Expr} {k : S → Mu → Prop}
theorem Qn.same {v : V} {d : S} (o : Out pu as F H as' F' H') (s : Sta pu as' F' μ H') (r : RepS pu as' F' d v) (q : k d μ) : Qn pu as F H k v H' := ⟨as', F', H', μ, o, s, .inl ⟨rfl, d, r, q⟩⟩
theorem Qn.op {v : V} (o : Out pu as F H as' F' H') (s : Sta pu as' F' μ H') (q : Qc F' H' (fun d => k (.c d) μ) v H2) : Qn pu as F H k v H2 := ⟨as', F', H', μ, o, s, .inr q⟩
theorem WE.fin (h : WE X e σ H (Qn pu as F H k)) : WE X e σ H (Qd pu as F H k) := by
  intro pins s I
  refine thn (h pins s I) fun v s' ⟨x, H', I', r, as', F', H1, μ', o, st, q⟩ => ?_
  rcases q with ⟨rfl, d, rd, kd⟩ | ⟨rfl, d, rd, kd⟩ | ⟨p, ob, d, hp, rfl, rfl, rd, kd⟩ | ⟨p, kvs, kds, hp, rfl, rfl, rd, kd⟩ | ⟨p, kvs, kds, hp, rfl, rfl, rd, kd⟩
  · exact ⟨x, _, I', r, as', F', μ', d, o, st, rd, kd⟩
  · exact ⟨x, _, I', r, as', F', μ', .c d, o, st, rd, kd⟩
  · obtain ⟨s2, o2⟩ := st.new (o := ob) hp
    exact ⟨_, _, I', r, as', _, μ', .c d, o.trans o2, s2, rd, kd⟩
  · obtain ⟨od, I2⟩ := I'.lock (d := p) (u := .dK kvs) upd_same trivial
    rw [upd_upd] at I2
    obtain ⟨s2, o2⟩ := st.new (o := .frz od (.dK kvs)) hp
    refine ⟨_, _, I2, r, as', _, μ', .c (.dk kds), o.trans o2, s2, ?_, kd⟩
    simp only [RepS, Rep]
    exact ⟨p, kvs, od, rfl, upd_same, rd.mono (same_upd (st.le.free hp))⟩
  · obtain ⟨od, I2⟩ := I'.lock (d := p) (u := .dT kvs) upd_same trivial
    rw [upd_upd] at I2
    obtain ⟨s2, o2⟩ := st.new (o := .frz od (.dT kvs)) hp
    refine ⟨_, _, I2, r, as', _, μ', .c (.dt kds), o.trans o2, s2, ?_, kd⟩
    simp only [RepS, Rep]
    exact ⟨p, kvs, od, rfl, upd_same, rd.mono (same_upd (st.le.free hp))⟩
theorem W2.mono {g : Value → Value → Sem Value} {x y : V} {Q Q' : VK} (h : W2 X g x y H Q) (k : ∀ v H', Q v H' → Q' v H') : W2 X g x y H Q' := fun pins s σ v u I rx ry => thn (h pins s σ v u I rx ry) fun _ _ ⟨v, H', I', r, q⟩ => ⟨v, H', I', r, k v H' q⟩
theorem WIx.mono {x y : V} {Q Q' : VK} (h : WIx X x y H Q) (k : ∀ v H', Q v H' → Q' v H') : WIx X x y H Q' := fun a b pins s σ v u I rx ry hs => thn (h a b pins s σ v u I rx ry hs) fun _ _ ⟨v, H', I', r, q⟩ => ⟨v, H', I', r, k v H' q⟩
theorem WC.mono {f : Value} {xs : List V} {Q Q' : VK} (h : WC X f xs H Q) (k : ∀ v H', Q v H' → Q' v H') : WC X f xs H Q' := fun pins s σ us I r => thn (h pins s σ us I r) fun _ _ ⟨v, H', I', r, q⟩ => ⟨v, H', I', r, k v H' q⟩
theorem W1.mono {g : Value → Sem Value} {x : V} {Q Q' : VK} (h : W1 X g x H Q) (k : ∀ v H', Q v H' → Q' v H') : W1 X g x H Q' := fun pins s σ v I r => thn (h pins s σ v I r) fun _ _ ⟨v, H', I', r, q⟩ => ⟨v, H', I', r, k v H' q⟩
theorem W1.op {g : Value → Sem Value} : UnR X g (W1 X g) := fun pins s σ H x v Q I rx h => h pins s σ v I rx
end

/-! ### names and constants -/
def sel : Option S → (S → Prop) → Prop
  | some d, k => k d
  | none, _ => False
def nth : Rho → Nat → Option S
  | [], _ => none
  | a :: _, 0 => a
  | _ :: l, n + 1 => nth l n
theorem nth_get : ∀ {ρ : Rho} {i : Nat} {d : S}, nth ρ i = some d → ρ[i]? = some (some d)
  | [], _, _, h => by simp [nth] at h
  | a :: l, 0, d, h => by simp only [nth] at h; simp [h]
  | a :: l, i + 1, d, h => by simp only [nth] at h; simpa using nth_get h
theorem sel_some {o : Option S} {k : S → Prop} (h : sel o k) : ∃ d, o = some d ∧ k d := by
  cases o with
  | none => exact h.elim
  | some d => exact ⟨d, rfl, h⟩
def rVar (i : Nat) : RE := fun ρ μ k => sel (nth ρ i) fun d => k d μ
def rC (d : D) : RE := fun _ μ k => k (.c d) μ
section
variable {X : Cx} {pu : Option Addr} {a b c e : Expr} {ta tb tc te : RE} {pos : Pos}
theorem de_var (i : Nat) {x : Str} (hN : X.N[i]? = some x := by rfl) (hv : Vis X.env.scope x := by first | exact Or.inl rfl | exact Or.inr (Or.inl rfl) | exact Or.inr (Or.inr rfl)) (hd : (x == ("__debug__" : Str)) = false := by decide)
    (hcd : (x == ("__classdict__" : Str)) = false := by decide) : DE X pu (.Name x pos) (rVar i) := by
  intro as F μ H σ ρ k st rh h
  obtain ⟨d, e, q⟩ := sel_some h
  obtain ⟨v, hv', r⟩ := rh.2 i d (nth_get e)
  exact WE.of (pe_var hN hv hd hcd) ⟨v, hv', .of .refl st r q⟩
theorem de_c {d : D} {v : V} (h : PE X e (tC v)) (r : ∀ F, Rep F d v) : DE X pu e (rC d) := fun as F μ H σ ρ k st rh q => WE.of h (show Qd pu as F H k v H from .of (d := .c d) .refl st (r F) q)
theorem de_int {i j} : DE X pu (.Constant (.int i) j pos) (rC (.int i)) := de_c pe_int fun _ => by simp only [Rep]
theorem de_bl {i j} : DE X pu (.Constant (.bool i) j pos) (rC (.bl i)) := de_c pe_bl fun _ => by simp only [Rep]
theorem de_non {j} : DE X pu (.Constant .none j pos) (rC .non) := de_c pe_non fun _ => by simp only [Rep]
theorem de_str {x j} : DE X pu (.Constant (.str x) j pos) (rC (.str x)) := de_c pe_str fun _ => by simp only [Rep]
theorem de_gstr {x : Str} {z : Str} {t : Tok} (hg : Gl X x) (hm : X.mg x = some (.str z t)) (hd : (x == ("__debug__" : Str)) = false := by decide) : DE X pu (.Name x pos) (rC (.str z)) := de_c (pe_glob hg hm (v := .str z) ⟨t, rfl⟩ hd) fun _ => by simp only [Rep]
theorem de_gref {x : Str} {d : Addr} (hg : Gl X x) (hm : X.mg x = some (.ref d)) (hd : (x == ("__debug__" : Str)) = false := by decide) : DE X pu (.Name x pos) (rC (.adr d)) := de_c (pe_glob hg hm (v := .ref d) rfl hd) fun _ => by simp only [Rep]

/-! ### two-place operations -/
def rBin (f : D → D → (D → Prop) → Prop) (ta tb : RE) : RE := fun ρ μ k => ta ρ μ fun x μ1 => tb ρ μ1 fun y μ2 => f (μ2.rd x) (μ2.rd y) fun d => k (.c d) μ2
def D2 (X : Cx) (g : Value → Value → Sem Value) (f : D → D → (D → Prop) → Prop) : Prop := ∀ F H a b x y k, Same F H → RdAt F H a x → RdAt F H b y → f a b k → W2 X g x y H (Qc F H k)
theorem seq2 {as : List Addr} {F H : Hp} {μ : Mu} {σ : L2.St} {ρ : Rho} {M : S → S → Mu → Prop} {R : V → V → Hp → Prop} (ha : DE X pu a ta) (hb : DE X pu b tb) (st : Sta pu as F μ H) (rh : RhoOk pu as F ρ σ)
    (h : ta ρ μ fun x μ1 => tb ρ μ1 fun y μ2 => M x y μ2)
    (hR : ∀ as' F' H' μ' dx dy x y, Out pu as F H as' F' H' → Sta pu as' F' μ' H' → RepS pu as' F' dx x → RepS pu as' F' dy y → M dx dy μ' → R x y H') : WE X a σ H fun x H1 => WE X b σ H1 fun y H2 => R x y H2 := by
  refine (ha as F μ H σ ρ _ st rh h).mono fun x H1 ⟨as1, F1, μ1, dx, o1, s1, r1, q1⟩ => ?_
  refine (hb as1 F1 μ1 H1 σ ρ _ s1 (rh.mono o1.ge) q1).mono fun y H2 ⟨as2, F2, μ2, dy, o2, s2, r2, q2⟩ => ?_
  exact hR as2 F2 H2 μ2 dx dy x y (o1.trans o2) s2 (r1.mono o2.ge) r2 q2
theorem de_bin {op : Operator} {f : D → D → (D → Prop) → Prop} (ho : D2 X (binaryOp op) f) (ha : DE X pu a ta) (hb : DE X pu b tb) : DE X pu (.BinOp a op b pos) (rBin f ta tb) := by
  intro as F μ H σ ρ k st rh h
  refine WE.fin (WE.of (pe_op W2.op WE.pe WE.pe) (seq2 ha hb st rh h fun as' F' H' μ' dx dy x y o s r1 r2 q => ?_))
  exact (ho F' H' _ _ x y _ s.le (s.rd r1) (s.rd r2) q).mono fun v H2 q2 => .op o s q2
theorem de_cmp {op : CmpOp} {f : D → D → (D → Prop) → Prop} (ho : D2 X (compareOp op) f) (ha : DE X pu a ta) (hb : DE X pu b tb) (hm : behindInMarks op b = false) : DE X pu (.Compare a [op] [b] pos) (rBin f ta tb) := by
  intro as F μ H σ ρ k st rh h
  refine WE.fin (WE.of (pe_cmpR W2.op WE.pe WE.pe hm) (seq2 ha hb st rh h fun as' F' H' μ' dx dy x y o s r1 r2 q => ?_))
  exact (ho F' H' _ _ x y _ s.le (s.rd r1) (s.rd r2) q).mono fun v H2 q2 => .op o s q2
def isB : S → (Bool → Prop) → Prop
  | .c (.bl b), k => k b
  | _, _ => False
theorem isB_some {d : S} {k : Bool → Prop} (h : isB d k) : ∃ b, d = .c (.bl b) ∧ k b := by
  cases d with
  | c d =>
    cases d with
    | bl b => exact ⟨b, rfl, h⟩
    | _ => exact h.elim
  | _ => exact h.elim
/-- a value that is a truth, as a test -/
def rT (t : RE) : RT := fun ρ μ k => t ρ μ fun d μ1 => isB d fun b => k b μ1
theorem Qd.bool {as : List Addr} {F H H' : Hp} {k : Bool → Mu → Prop} {v : V} (h : Qd pu as F H (fun d μ1 => isB d fun b => k b μ1) v H') : ∃ b, v = .bl b ∧ Qb pu as F H k b H' := by
  obtain ⟨as', F', μ', d, o, s, r, q⟩ := h
  obtain ⟨b, rfl, q⟩ := isB_some q
  simp only [RepS, Rep] at r
  exact ⟨b, r, as', F', μ', o, s, q⟩
theorem dt_of (h : DE X pu e te) (he : ∀ whole, isTrue e X.env whole = (do let v ← whole; standAt e.pos; holding [v] (truthy v)) := by intro _; rfl) : DT X pu e (rT te) := by
  intro as F μ H σ ρ k st rh q
  refine WT.of (pt_val WE.pe he) ?_
  exact (h as F μ H σ ρ _ st rh q).mono fun v H' z => Qd.bool z
theorem dt_cmp {op : CmpOp} {f : D → D → (D → Prop) → Prop} (ho : D2 X (compareOp op) f) (ha : DE X pu a ta) (hb : DE X pu b tb) (hm : behindInMarks op b = false) : DT X pu (.Compare a [op] [b] pos) (rT (rBin f ta tb)) := by
  intro as F μ H σ ρ k st rh h
  refine WT.of (pt_cmpR W2.op WE.pe WE.pe hm) ?_
  have q := seq2 (R := fun x y H' => W2 X (compareOp op) x y H' fun v H2 => Qd pu as F H (fun d μ1 => isB d fun b => k b μ1) v H2) ha hb st rh h fun as' F' H' μ' dx dy x y o s r1 r2 q => ?_
  · exact q.mono fun x H1 h1 => h1.mono fun y H2 h2 => h2.mono fun v H3 h3 => Qd.bool h3
  · refine (ho F' H' _ _ x y _ s.le (s.rd r1) (s.rd r2) q).mono fun v H2 q2 => ?_
    rcases q2 with ⟨rfl, d, rd, kd⟩ | ⟨p, ob, d, hp, rfl, rfl, rd, kd⟩ | ⟨p, kvs, kds, hp, rfl, rfl, rd, kd⟩ | ⟨p, kvs, kds, hp, rfl, rfl, rd, kd⟩
    · exact ⟨as', F', μ', .c d, o, s, rd, kd⟩
    · obtain ⟨b, e, q⟩ := isB_some kd
      cases e
      simp only [Rep] at rd
      cases rd
    · exact (isB_some kd).elim fun b h => by cases h.1
    · exact (isB_some kd).elim fun b h => by cases h.1

/-! ### and, or, not, if-else, chains -/
def br (b : Bool) (P Q : Prop) : Prop := (b = true → P) ∧ (b = false → Q)
theorem br_t {P Q : Prop} : br true P Q ↔ P := by simp [br]
theorem br_f {P Q : Prop} : br false P Q ↔ Q := by simp [br]
theorem br.ite {b : Bool} {P Q : Prop} (h : br b P Q) : if b = true then P else Q := by
  cases b with
  | true => exact h.1 rfl
  | false => exact h.2 rfl
def rAndV (ta tb : RE) : RE := fun ρ μ k => ta ρ μ fun d μ1 => isB d fun b => br b (tb ρ μ1 k) (k (.c (.bl false)) μ1)
def rOrV (ta tb : RE) : RE := fun ρ μ k => ta ρ μ fun d μ1 => isB d fun b => br b (k (.c (.bl true)) μ1) (tb ρ μ1 k)
def rNotV (ta : RE) : RE := fun ρ μ k => ta ρ μ fun d μ1 => isB d fun b => k (.c (.bl (!b))) μ1
def rAnd (ta tb : RT) : RT := fun ρ μ k => ta ρ μ fun b μ1 => br b (tb ρ μ1 k) (k false μ1)
def rOr (ta tb : RT) : RT := fun ρ μ k => ta ρ μ fun b μ1 => br b (k true μ1) (tb ρ μ1 k)
def rNot (ta : RT) : RT := fun ρ μ k => ta ρ μ fun b μ1 => k (!b) μ1
def rIf (t : RT) (ta tb : RE) : RE := fun ρ μ k => t ρ μ fun b μ1 => br b (ta ρ μ1 k) (tb ρ μ1 k)
variable {rest : List Expr} {t u : RT}
theorem de_one {op} (h : DE X pu a ta) : DE X pu (.BoolOp op [a] pos) ta := fun as F μ H σ ρ k st rh q => WE.of (pe_one WE.pe) (h as F μ H σ ρ k st rh q)
theorem de_and (ha : DE X pu a ta) (hb : DE X pu (.BoolOp .And (b :: rest) pos) tb) : DE X pu (.BoolOp .And (a :: b :: rest) pos) (rAndV ta tb) := by
  intro as F μ H σ ρ k st rh h
  refine WE.of (pe_and WE.pe WE.pe) ((ha as F μ H σ ρ _ st rh h).mono fun v H1 ⟨as1, F1, μ1, d, o, s, r, q⟩ => ?_)
  obtain ⟨c, rfl, q⟩ := isB_some q
  simp only [RepS, Rep] at r
  refine ⟨c, r, ?_⟩
  cases c with
  | true => exact iteT ((hb as1 F1 μ1 H1 σ ρ k s (rh.mono o.ge) (q.1 rfl)).mono fun v H2 z => z.trans o)
  | false => exact iteF ⟨as1, F1, μ1, _, o, s, by simp only [RepS, Rep], q.2 rfl⟩
theorem de_or (ha : DE X pu a ta) (hb : DE X pu (.BoolOp .Or (b :: rest) pos) tb) : DE X pu (.BoolOp .Or (a :: b :: rest) pos) (rOrV ta tb) := by
  intro as F μ H σ ρ k st rh h
  refine WE.of (pe_or WE.pe WE.pe) ((ha as F μ H σ ρ _ st rh h).mono fun v H1 ⟨as1, F1, μ1, d, o, s, r, q⟩ => ?_)
  obtain ⟨c, rfl, q⟩ := isB_some q
  simp only [RepS, Rep] at r
  refine ⟨c, r, ?_⟩
  cases c with
  | true => exact iteT ⟨as1, F1, μ1, _, o, s, by simp only [RepS, Rep], q.1 rfl⟩
  | false => exact iteF ((hb as1 F1 μ1 H1 σ ρ k s (rh.mono o.ge) (q.2 rfl)).mono fun v H2 z => z.trans o)
theorem de_not (ha : DE X pu a ta) : DE X pu (.UnaryOp .Not a pos) (rNotV ta) := by
  intro as F μ H σ ρ k st rh h
  refine WE.of (pe_not WE.pe) ((ha as F μ H σ ρ _ st rh h).mono fun v H1 ⟨as1, F1, μ1, d, o, s, r, q⟩ => ?_)
  obtain ⟨c, rfl, q⟩ := isB_some q
  simp only [RepS, Rep] at r
  exact ⟨c, r, as1, F1, μ1, _, o, s, by simp only [RepS, Rep], q⟩
theorem dw_one_and (h : DT X pu a t) : DW X pu (.BoolOp .And [a] pos) t := fun as F μ H σ ρ k st rh q => WW.of (pw_and1 WT.pt) (h as F μ H σ ρ k st rh q)
theorem dw_one_or (h : DT X pu a t) : DW X pu (.BoolOp .Or [a] pos) t := fun as F μ H σ ρ k st rh q => WW.of (pw_or1 WT.pt) (h as F μ H σ ρ k st rh q)
theorem dw_and (ha : DT X pu a t) (hb : DW X pu (.BoolOp .And (b :: rest) pos) u) : DW X pu (.BoolOp .And (a :: b :: rest) pos) (rAnd t u) := by
  intro as F μ H σ ρ k st rh h
  refine WW.of (pw_and WT.pt WW.pw) ((ha as F μ H σ ρ _ st rh h).mono fun c H1 ⟨as1, F1, μ1, o, s, q⟩ => ?_)
  cases c with
  | true => exact iteT ((hb as1 F1 μ1 H1 σ ρ k s (rh.mono o.ge) (q.1 rfl)).mono fun v H2 z => z.trans o)
  | false => exact iteF ⟨as1, F1, μ1, o, s, q.2 rfl⟩
theorem dw_or (ha : DT X pu a t) (hb : DW X pu (.BoolOp .Or (b :: rest) pos) u) : DW X pu (.BoolOp .Or (a :: b :: rest) pos) (rOr t u) := by
  intro as F μ H σ ρ k st rh h
  refine WW.of (pw_or WT.pt WW.pw) ((ha as F μ H σ ρ _ st rh h).mono fun c H1 ⟨as1, F1, μ1, o, s, q⟩ => ?_)
  cases c with
  | true => exact iteT ⟨as1, F1, μ1, o, s, q.1 rfl⟩
  | false => exact iteF ((hb as1 F1 μ1 H1 σ ρ k s (rh.mono o.ge) (q.2 rfl)).mono fun v H2 z => z.trans o)
theorem dt_bool (h : DW X pu e t) : DT X pu e t := fun as F μ H σ ρ k st rh q => WT.of (PW.pt WW.pw) (h as F μ H σ ρ k st rh q)
theorem dt_not (ha : DT X pu a t) : DT X pu (.UnaryOp .Not a pos) (rNot t) := fun as F μ H σ ρ k st rh h => WT.of (pt_not WT.pt) ((ha as F μ H σ ρ _ st rh h).mono fun c H1 ⟨as1, F1, μ1, o, s, q⟩ => ⟨as1, F1, μ1, o, s, q⟩)
theorem de_if (hc : DT X pu c t) (ha : DE X pu a ta) (hb : DE X pu b tb) : DE X pu (.IfExp c a b pos) (rIf t ta tb) := by
  intro as F μ H σ ρ k st rh h
  refine WE.of (pe_ifExp WT.pt WE.pe WE.pe) ((hc as F μ H σ ρ _ st rh h).mono fun d H1 ⟨as1, F1, μ1, o, s, q⟩ => ?_)
  cases d with
  | true => exact iteT ((ha as1 F1 μ1 H1 σ ρ k s (rh.mono o.ge) (q.1 rfl)).mono fun v H2 z => z.trans o)
  | false => exact iteF ((hb as1 F1 μ1 H1 σ ρ k s (rh.mono o.ge) (q.2 rfl)).mono fun v H2 z => z.trans o)
/-- a op b op' c over ints -/
def rCh (f g : D → D → (D → Prop) → Prop) (ta tb tc : RE) : RE := fun ρ μ k => ta ρ μ fun x μ1 => tb ρ μ1 fun y μ2 => f (μ2.rd x) (μ2.rd y) fun d => isB (.c d) fun c => br c (tc ρ μ2 fun z μ3 => g (μ3.rd y) (μ3.rd z) fun r => k (.c r) μ3) (k (.c (.bl false)) μ2)
end
end DL
/-! ## DL3 -/
namespace DL
open PySem PySem.Spec PyProof.Rows L2

/-! ### equality of data -/
mutual
def eqb : D → D → Bool
  | .non, .non => true
  | .bl a, .bl b => a == b
  | .bl a, .int b => (if a then 1 else 0) == b
  | .int a, .bl b => a == (if b then 1 else 0)
  | .int a, .int b => a == b
  | .str a, .str b => a == b
  | .lst a, .lst b => eqbs a b
  | .tup a, .tup b => eqbs a b
  | .dk a, .dk b => a.length == b.length && eqbk a b
  | _, _ => false
def eqbs : List D → List D → Bool
  | [], [] => true
  | a :: as, b :: bs => eqb a b && eqbs as bs
  | _, _ => false
def eqbk : List (Key × D) → List (Key × D) → Bool
  | [], _ => true
  | (k, a) :: as, bs => (match (bs.find? fun p => decide (p.1 = k)) with | some p => eqb a p.2 | none => false) && eqbk as bs
end
mutual
/-- lists, tuples and flat things alone -/
def seqD : D → Bool
  | .non | .bl _ | .int _ | .str _ => true
  | .lst a | .tup a => seqDs a
  | _ => false
def seqDs : List D → Bool
  | [] => true
  | a :: as => seqD a && seqDs as
end
mutual
def dep : D → Nat
  | .lst a | .tup a => deps a + 1
  | .dk a => depk a + 1
  | _ => 0
def deps : List D → Nat
  | [] => 0
  | a :: as => max (dep a) (deps as)
def depk : List (Key × D) → Nat
  | [] => 0
  | (_, a) :: as => max (dep a) (depk as)
end
mutual
/-- dicts, too -/
def eqOk : D → Bool
  | .non | .bl _ | .int _ | .str _ => true
  | .lst a | .tup a => eqOks a
  | .dk a => eqOkk a && decide (a.map (·.1)).Nodup
  | _ => false
def eqOks : List D → Bool
  | [] => true
  | a :: as => eqOk a && eqOks as
def eqOkk : List (Key × D) → Bool
  | [] => true
  | (_, a) :: as => eqOk a && eqOkk as
end
theorem seqDs_get : ∀ {as : List D} {j : Nat} {a : D}, seqDs as = true → as[j]? = some a → seqD a = true
  | [], _, _, _, h => by simp at h
  | a :: as, 0, _, h, e => by
    simp at e; subst e
    simp only [seqDs, Bool.and_eq_true] at h
    exact h.1
  | a :: as, j + 1, _, h, e => by
    simp only [seqDs, Bool.and_eq_true] at h
    exact seqDs_get (j := j) h.2 (by simpa using e)
theorem eqOks_get : ∀ {as : List D} {j : Nat} {a : D}, eqOks as = true → as[j]? = some a → eqOk a = true
  | [], _, _, _, h => by simp at h
  | a :: as, 0, _, h, e => by
    simp at e; subst e
    simp only [eqOks, Bool.and_eq_true] at h
    exact h.1
  | a :: as, j + 1, _, h, e => by
    simp only [eqOks, Bool.and_eq_true] at h
    exact eqOks_get (j := j) h.2 (by simpa using e)
theorem deps_get : ∀ {as : List D} {j : Nat} {a : D}, as[j]? = some a → dep a ≤ deps as
  | [], _, _, h => by simp at h
  | a :: as, 0, _, e => by
    simp at e; subst e
    exact Nat.le_max_left _ _
  | a :: as, j + 1, _, e => Nat.le_trans (deps_get (j := j) (by simpa using e)) (Nat.le_max_right _ _)
mutual
theorem eqOk_of_seq : ∀ a : D, seqD a = true → eqOk a = true
  | .non, _ => rfl
  | .bl _, _ => rfl
  | .int _, _ => rfl
  | .str _, _ => rfl
  | .lst a, h => by simp only [eqOk]; exact eqOks_of_seq a (by simpa only [seqD] using h)
  | .tup a, h => by simp only [eqOk]; exact eqOks_of_seq a (by simpa only [seqD] using h)
  | .ty _, h => by simp [seqD] at h
  | .adr _, h => by simp [seqD] at h
  | .dk _, h => by simp [seqD] at h
  | .dt _, h => by simp [seqD] at h
  | .obj _ _, h => by simp [seqD] at h
theorem eqOks_of_seq : ∀ a : List D, seqDs a = true → eqOks a = true
  | [], _ => rfl
  | a :: as, h => by
    simp only [seqDs, Bool.and_eq_true] at h
    simp only [eqOks, Bool.and_eq_true]
    exact ⟨eqOk_of_seq a h.1, eqOks_of_seq as h.2⟩
end
mutual
theorem eqb_refl : ∀ a : D, eqOk a = true → eqb a a = true
  | .non, _ => rfl
  | .bl b, _ => by simp [eqb]
  | .int i, _ => by simp [eqb]
  | .str x, _ => by simp [eqb]
  | .lst a, h => by simp only [eqb]; exact eqbs_refl a (by simpa only [eqOk] using h)
  | .tup a, h => by simp only [eqb]; exact eqbs_refl a (by simpa only [eqOk] using h)
  | .ty _, h => by simp [eqOk] at h
  | .adr _, h => by simp [eqOk] at h
  | .dt _, h => by simp [eqOk] at h
  | .obj _ _, h => by simp [eqOk] at h
  | .dk a, h => by
    simp only [eqOk, Bool.and_eq_true, decide_eq_true_eq] at h
    simp only [eqb, beq_self_eq_true, Bool.true_and]
    exact eqbk_refl a a h.1 h.2 (fun p hp => hp)
theorem eqbs_refl : ∀ a : List D, eqOks a = true → eqbs a a = true
  | [], _ => rfl
  | a :: as, h => by
    simp only [eqOks, Bool.and_eq_true] at h
    simp only [eqbs, Bool.and_eq_true]
    exact ⟨eqb_refl a h.1, eqbs_refl as h.2⟩
theorem eqbk_refl : ∀ (a b : List (Key × D)), eqOkk a = true → (b.map (·.1)).Nodup → (∀ p ∈ a, p ∈ b) → eqbk a b = true
  | [], _, _, _, _ => by simp only [eqbk]
  | (k, d) :: a, b, h, nd, hs => by
    simp only [eqOkk, Bool.and_eq_true] at h
    simp only [eqbk, Bool.and_eq_true]
    refine ⟨?_, eqbk_refl a b h.2 nd fun p hp => hs p (List.mem_cons_of_mem _ hp)⟩
    have hm : (k, d) ∈ b := hs _ List.mem_cons_self
    have e : b.find? (fun p => decide (p.1 = k)) = some (k, d) := find_nd nd hm
    rw [e]
    exact eqb_refl d h.1
theorem find_nd : ∀ {b : List (Key × D)} {k : Key} {d : D}, (b.map (·.1)).Nodup → (k, d) ∈ b → b.find? (fun p => decide (p.1 = k)) = some (k, d)
  | [], _, _, _, h => by simp at h
  | (k', d') :: b, k, d, nd, h => by
    simp only [List.map_cons, List.nodup_cons] at nd
    rcases List.mem_cons.mp h with e | h
    · cases e; simp
    · have : k' ≠ k := fun e => nd.1 (by rw [e]; exact List.mem_map.mpr ⟨(k, d), h, rfl⟩)
      rw [List.find?_cons_of_neg (by simpa using this)]
      exact find_nd nd.2 h
end
mutual
theorem rep_inj {F : Hp} : ∀ (a b : D) {v : V}, eqOk a = true → eqOk b = true → Rep F a v → Rep F b v → a = b
  | a, b, v, ha, hb, ra, rb => by
    cases a with
    | non =>
      simp only [Rep] at ra; subst ra
      cases b with
      | non => rfl
      | ty _ => simp [eqOk] at hb
      | _ => simp [Rep] at rb
    | bl x =>
      simp only [Rep] at ra; subst ra
      cases b with
      | bl y => simp [Rep] at rb; rw [rb]
      | ty _ => simp [eqOk] at hb
      | _ => simp [Rep] at rb
    | int x =>
      simp only [Rep] at ra; subst ra
      cases b with
      | int y => simp [Rep] at rb; rw [rb]
      | ty _ => simp [eqOk] at hb
      | _ => simp [Rep] at rb
    | str x =>
      simp only [Rep] at ra; subst ra
      cases b with
      | str y => simp [Rep] at rb; rw [rb]
      | ty _ => simp [eqOk] at hb
      | _ => simp [Rep] at rb
    | ty _ => simp [eqOk] at ha
    | adr _ => simp [eqOk] at ha
    | dt _ => simp [eqOk] at ha
    | obj _ _ => simp [eqOk] at ha
    | lst xs =>
      simp only [Rep] at ra
      obtain ⟨p, vs, rfl, h1, h2⟩ := ra
      cases b <;> simp only [Rep] at rb <;> first | (cases rb; done) | (simp [eqOk] at hb; done) | skip
      · rename_i ys
        obtain ⟨q, us, e, h3, h4⟩ := rb
        cases e
        rw [h1] at h3; cases h3
        simp only [eqOk] at ha hb
        rw [reps_inj xs ys ha hb h2 h4]
      · obtain ⟨q, us, e, h3, h4⟩ := rb
        cases e
        rw [h1] at h3; cases h3
      · obtain ⟨q, us, o, e, h3, h4⟩ := rb
        cases e
        rw [h1] at h3; cases h3
    | tup xs =>
      simp only [Rep] at ra
      obtain ⟨p, vs, rfl, h1, h2⟩ := ra
      cases b <;> simp only [Rep] at rb <;> first | (cases rb; done) | (simp [eqOk] at hb; done) | skip
      · obtain ⟨q, us, e, h3, h4⟩ := rb
        cases e
        rw [h1] at h3; cases h3
      · rename_i ys
        obtain ⟨q, us, e, h3, h4⟩ := rb
        cases e
        rw [h1] at h3; cases h3
        simp only [eqOk] at ha hb
        rw [reps_inj xs ys ha hb h2 h4]
      · obtain ⟨q, us, o, e, h3, h4⟩ := rb
        cases e
        rw [h1] at h3; cases h3
    | dk xs =>
      simp only [Rep] at ra
      obtain ⟨p, vs, o, rfl, h1, h2⟩ := ra
      cases b <;> simp only [Rep] at rb <;> first | (cases rb; done) | (simp [eqOk] at hb; done) | skip
      · obtain ⟨q, us, e, h3, h4⟩ := rb
        cases e
        rw [h1] at h3; cases h3
      · obtain ⟨q, us, e, h3, h4⟩ := rb
        cases e
        rw [h1] at h3; cases h3
      · rename_i ys
        obtain ⟨q, us, o', e, h3, h4⟩ := rb
        cases e
        rw [h1] at h3; cases h3
        simp only [eqOk, Bool.and_eq_true] at ha hb
        rw [repk_inj xs ys ha.1 hb.1 h2 h4]
theorem reps_inj {F : Hp} : ∀ (a b : List D) {v : List V}, eqOks a = true → eqOks b = true → Reps F a v → Reps F b v → a = b
  | [], b, v, _, _, ra, rb => by
    simp only [Reps] at ra; subst ra
    cases b with
    | nil => rfl
    | cons => simp only [Reps] at rb; obtain ⟨_, _, h, _⟩ := rb; cases h
  | a :: as, b, v, ha, hb, ra, rb => by
    simp only [Reps] at ra
    obtain ⟨x, r, rfl, h1, h2⟩ := ra
    cases b with
    | nil => simp only [Reps] at rb; cases rb
    | cons b bs =>
      simp only [Reps] at rb
      obtain ⟨x', r', e, h3, h4⟩ := rb
      cases e
      simp only [eqOks, Bool.and_eq_true] at ha hb
      rw [rep_inj a b ha.1 hb.1 h1 h3, reps_inj as bs ha.2 hb.2 h2 h4]
theorem repk_inj {F : Hp} : ∀ (a b : List (Key × D)) {v : List (Key × V)}, eqOkk a = true → eqOkk b = true → RepK F a v → RepK F b v → a = b
  | [], b, v, _, _, ra, rb => by
    simp only [RepK] at ra; subst ra
    cases b with
    | nil => rfl
    | cons => simp only [RepK] at rb; obtain ⟨_, _, h, _⟩ := rb; cases h
  | (k, a) :: as, b, v, ha, hb, ra, rb => by
    simp only [RepK] at ra
    obtain ⟨x, r, rfl, h1, h2⟩ := ra
    cases b with
    | nil => simp only [RepK] at rb; cases rb
    | cons b bs =>
      obtain ⟨k', b⟩ := b
      simp only [RepK] at rb
      obtain ⟨x', r', e, h3, h4⟩ := rb
      cases e
      simp only [eqOkk, Bool.and_eq_true] at ha hb
      rw [rep_inj a b ha.1 hb.1 h1 h3, repk_inj as bs ha.2 hb.2 h2 h4]
end

/-! ### == at the model's level -/
section
variable {X : Cx} {pins : List (Addr × Obj)} {σ : L2.St} {H F : Hp} {s : Shared}
theorem eqbs_all : ∀ {as bs : List D} {e : Nat → Bool}, as.length = bs.length → (∀ j a b, as[j]? = some a → bs[j]? = some b → e j = eqb a b) → (List.range as.length).all e = eqbs as bs
  | [], [], _, _, _ => rfl
  | [], _ :: _, _, h, _ => by simp at h
  | _ :: _, [], _, h, _ => by simp at h
  | a :: as, b :: bs, e, h, he => by
    rw [List.length_cons, List.range_succ_eq_map, List.all_cons, List.all_map]
    simp only [eqbs]
    rw [he 0 a b rfl rfl]
    congr 1
    exact eqbs_all (by simpa using h) fun j x y h1 h2 => he (j + 1) x y (by simpa using h1) (by simpa using h2)
theorem eqbs_len : ∀ {as bs : List D}, as.length ≠ bs.length → eqbs as bs = false
  | [], [], h => absurd rfl h
  | [], _ :: _, _ => rfl
  | _ :: _, [], _ => rfl
  | a :: as, b :: bs, h => by
    simp only [eqbs]
    rw [eqbs_len (by simpa using h), Bool.and_false]
mutual
theorem eqAt_D (I : Inv X pins σ H s) (le : Same F H) : ∀ (a b : D) {x y : V} {v u : Value} {A : Around}, seqD a = true → seqD b = true → RdAt F H a x → RdAt F H b y → RelV x v → RelV y u → A.units + dep a < cLine → SeqAt.EqAt A s v u (eqb a b)
  | .non, b, x, y, v, u, A, _, hb, ra, rb, rx, ry, hu => by
    cases (show x = V.non from ra)
    cases b with
    | non => cases (show y = V.non from rb); exact eqAt_V rx ry rfl rfl
    | bl c => cases (show y = V.bl c from rb); exact eqAt_V rx ry rfl rfl
    | int c => cases (show y = V.int c from rb); exact eqAt_V rx ry rfl rfl
    | str c => cases (show y = V.str c from rb); exact eqAt_V rx ry rfl rfl
    | lst c =>
      obtain ⟨p, vs, rfl, h1, h2⟩ := rb
      cases rx; cases ry
      obtain ⟨_, _, pl, _⟩ := I.list (SqL.of h1)
      exact SeqAt.EqAt.none_list pl.isList (by simpa [dep] using hu)
    | tup c =>
      obtain ⟨p, vs, rfl, h1, h2⟩ := rb
      cases rx; cases ry
      obtain ⟨_, _, pl, _⟩ := I.tuple (SqT.of (le _ _ h1))
      exact SeqAt.EqAt.none_tuple pl (by simpa [dep] using hu)
    | _ => simp [seqD] at hb
  | .bl a, b, x, y, v, u, A, _, hb, ra, rb, rx, ry, hu => by
    cases (show x = V.bl a from ra)
    cases b with
    | non => cases (show y = V.non from rb); exact eqAt_V rx ry rfl rfl
    | bl c => cases (show y = V.bl c from rb); exact eqAt_V rx ry rfl rfl
    | int c => cases (show y = V.int c from rb); exact eqAt_V rx ry rfl rfl
    | str c => cases (show y = V.str c from rb); exact eqAt_V rx ry rfl rfl
    | lst c =>
      obtain ⟨p, vs, rfl, h1, h2⟩ := rb
      cases rx; cases ry
      obtain ⟨_, _, pl, _⟩ := I.list (SqL.of h1)
      exact SeqAt.EqAt.bool_list a pl.isList (by simpa [dep] using hu)
    | tup c =>
      obtain ⟨p, vs, rfl, h1, h2⟩ := rb
      cases rx; cases ry
      obtain ⟨_, _, pl, _⟩ := I.tuple (SqT.of (le _ _ h1))
      exact SeqAt.EqAt.bool_tuple a pl (by simpa [dep] using hu)
    | _ => simp [seqD] at hb
  | .int a, b, x, y, v, u, A, _, hb, ra, rb, rx, ry, hu => by
    cases (show x = V.int a from ra)
    cases b with
    | non => cases (show y = V.non from rb); exact eqAt_V rx ry rfl rfl
    | bl c => cases (show y = V.bl c from rb); exact eqAt_V rx ry rfl rfl
    | int c => cases (show y = V.int c from rb); exact eqAt_V rx ry rfl rfl
    | str c => cases (show y = V.str c from rb); exact eqAt_V rx ry rfl rfl
    | lst c =>
      obtain ⟨p, vs, rfl, h1, h2⟩ := rb
      obtain ⟨t, rfl⟩ := rx; cases ry
      obtain ⟨_, _, pl, _⟩ := I.list (SqL.of h1)
      exact SeqAt.EqAt.int_list a t pl.isList (by simpa [dep] using hu)
    | tup c =>
      obtain ⟨p, vs, rfl, h1, h2⟩ := rb
      obtain ⟨t, rfl⟩ := rx; cases ry
      obtain ⟨_, _, pl, _⟩ := I.tuple (SqT.of (le _ _ h1))
      exact SeqAt.EqAt.int_tuple a t pl (by simpa [dep] using hu)
    | _ => simp [seqD] at hb
  | .str a, b, x, y, v, u, A, _, hb, ra, rb, rx, ry, hu => by
    cases (show x = V.str a from ra)
    cases b with
    | non => cases (show y = V.non from rb); exact eqAt_V rx ry rfl rfl
    | bl c => cases (show y = V.bl c from rb); exact eqAt_V rx ry rfl rfl
    | int c => cases (show y = V.int c from rb); exact eqAt_V rx ry rfl rfl
    | str c => cases (show y = V.str c from rb); exact eqAt_V rx ry rfl rfl
    | lst c =>
      obtain ⟨p, vs, rfl, h1, h2⟩ := rb
      obtain ⟨t, rfl⟩ := rx; cases ry
      obtain ⟨_, _, pl, _⟩ := I.list (SqL.of h1)
      exact SeqAt.EqAt.str_list a t pl.isList (by simpa [dep] using hu)
    | tup c =>
      obtain ⟨p, vs, rfl, h1, h2⟩ := rb
      obtain ⟨t, rfl⟩ := rx; cases ry
      obtain ⟨_, _, pl, _⟩ := I.tuple (SqT.of (le _ _ h1))
      exact SeqAt.EqAt.str_tuple a t pl (by simpa [dep] using hu)
    | _ => simp [seqD] at hb
  | .lst as, b, x, y, v, u, A, ha, hb, ra, rb, rx, ry, hu => by
    obtain ⟨p, vs, rfl, h1, h2⟩ := ra
    cases rx
    obtain ⟨its, rv, pl, _⟩ := I.list (SqL.of h1)
    have hu' : A.units < cLine := by simp only [dep] at hu; omega
    cases b with
    | non => cases (show y = V.non from rb); cases ry; exact SeqAt.EqAt.list_none pl.isList hu'
    | bl c => cases (show y = V.bl c from rb); cases ry; exact SeqAt.EqAt.list_bool c pl.isList hu'
    | int c => cases (show y = V.int c from rb); obtain ⟨t, rfl⟩ := ry; exact SeqAt.EqAt.list_int c t pl.isList hu'
    | str c => cases (show y = V.str c from rb); obtain ⟨t, rfl⟩ := ry; exact SeqAt.EqAt.list_str c t pl.isList hu'
    | tup c =>
      obtain ⟨q, us, rfl, h3, h4⟩ := rb
      cases ry
      obtain ⟨_, _, pl2, _⟩ := I.tuple (SqT.of (le _ _ h3))
      exact SeqAt.EqAt.list_tuple pl.isList pl2 hu'
    | lst bs =>
      obtain ⟨q, us, rfl, h3, h4⟩ := rb
      cases ry
      obtain ⟨its2, rv2, pl2, _⟩ := I.list (SqL.of h3)
      simp only [seqD] at ha hb
      by_cases hpq : p = q
      · subst hpq
        rw [h1] at h3; cases h3
        have e := reps_inj as bs (eqOks_of_seq _ ha) (eqOks_of_seq _ hb) h2 h4
        subst e
        rw [show eqb (.lst as) (.lst as) = true from eqb_refl _ (by simp only [eqOk]; exact eqOks_of_seq _ ha)]
        exact SeqAt.EqAt.same _
      · by_cases hl : as.length = bs.length
        · have hsz : its.toArray.size = its2.toArray.size := by
            simp only [List.size_toArray, ← rv.length, ← rv2.length, h2.length, h4.length]
            exact hl
          have e1 : (List.range its.toArray.size).all (fun j => eqb (as.getD j .non) (bs.getD j .non)) = eqb (.lst as) (.lst bs) := by
            simp only [List.size_toArray, ← rv.length, h2.length, eqb]
            refine eqbs_all hl fun j a b z1 z2 => ?_
            simp only [List.getD, z1, z2, Option.getD_some]
          rw [← e1]
          refine SeqAt.EqAt.of_refs hpq (SeqAt.RcAt.lists pl.isList pl2.isList hsz hu' fun j j1 j2 => ?_)
          simp only [List.size_toArray] at j1 j2
          have ja : j < as.length := by rw [← h2.length, rv.length]; exact j1
          have jb : j < bs.length := by rw [← h4.length, rv2.length]; exact j2
          obtain ⟨xv, e3, r3⟩ := h2.get (i := j) (d := as[j]) (by simp [ja])
          obtain ⟨yv, e4, r4⟩ := h4.get (i := j) (d := bs[j]) (by simp [jb])
          obtain ⟨uv, e5, r5⟩ := rv.get e3
          obtain ⟨uw, e6, r6⟩ := rv2.get e4
          have e5' : its.toArray[j] = uv := by
            rw [List.getElem?_eq_getElem j1] at e5
            simpa using e5
          have e6' : its2.toArray[j] = uw := by
            rw [List.getElem?_eq_getElem j2] at e6
            simpa using e6
          rw [e5', e6']
          have ga : as.getD j .non = as[j] := by simp [List.getD, ja]
          have gb : bs.getD j .non = bs[j] := by simp [List.getD, jb]
          rw [ga, gb]
          have hd : dep as[j] ≤ deps as := deps_get (j := j) (by simp [ja])
          exact eqAt_Ds I le as j as[j] (by simp [ja]) bs[j] (seqDs_get ha (j := j) (by simp [ja])) (seqDs_get hb (j := j) (by simp [jb])) (r3.rd le) (r4.rd le) r5 r6 (by
            simp only [dep] at hu
            show A.units + 1 + dep as[j] < cLine
            omega)
        · rw [show eqb (.lst as) (.lst bs) = false by simp only [eqb]; exact eqbs_len hl]
          refine SeqAt.EqAt.of_refs hpq (SeqAt.RcAt.lists_lengths pl.isList pl2.isList ?_ hu')
          simp only [List.size_toArray, ← rv.length, ← rv2.length, h2.length, h4.length]
          simpa using hl
    | _ => simp [seqD] at hb
  | .tup as, b, x, y, v, u, A, ha, hb, ra, rb, rx, ry, hu => by
    obtain ⟨p, vs, rfl, h1, h2⟩ := ra
    cases rx
    obtain ⟨its, rv, pl, _⟩ := I.tuple (SqT.of (le _ _ h1))
    have hu' : A.units < cLine := by simp only [dep] at hu; omega
    cases b with
    | non => cases (show y = V.non from rb); cases ry; exact SeqAt.EqAt.tuple_none pl hu'
    | bl c => cases (show y = V.bl c from rb); cases ry; exact SeqAt.EqAt.tuple_bool c pl hu'
    | int c => cases (show y = V.int c from rb); obtain ⟨t, rfl⟩ := ry; exact SeqAt.EqAt.tuple_int c t pl hu'
    | str c => cases (show y = V.str c from rb); obtain ⟨t, rfl⟩ := ry; exact SeqAt.EqAt.tuple_str c t pl hu'
    | lst c =>
      obtain ⟨q, us, rfl, h3, h4⟩ := rb
      cases ry
      obtain ⟨_, _, pl2, _⟩ := I.list (SqL.of h3)
      exact SeqAt.EqAt.tuple_list pl pl2.isList hu'
    | tup bs =>
      obtain ⟨q, us, rfl, h3, h4⟩ := rb
      cases ry
      obtain ⟨its2, rv2, pl2, _⟩ := I.tuple (SqT.of (le _ _ h3))
      simp only [seqD] at ha hb
      by_cases hpq : p = q
      · subst hpq
        rw [h1] at h3; cases h3
        have e := reps_inj as bs (eqOks_of_seq _ ha) (eqOks_of_seq _ hb) h2 h4
        subst e
        rw [show eqb (.tup as) (.tup as) = true from eqb_refl _ (by simp only [eqOk]; exact eqOks_of_seq _ ha)]
        exact SeqAt.EqAt.same _
      · have base := SeqAt.RcAt.tuples (A := A) (e := fun j => eqb (as.getD j .non) (bs.getD j .non)) pl pl2 hu' fun j j1 j2 => ?_
        · by_cases hl : as.length = bs.length
          · have hsz : its.toArray.size = its2.toArray.size := by
              simp only [List.size_toArray, ← rv.length, ← rv2.length, h2.length, h4.length]
              exact hl
            have e1 : (List.range its.toArray.size).all (fun j => eqb (as.getD j .non) (bs.getD j .non)) = eqb (.tup as) (.tup bs) := by
              simp only [List.size_toArray, ← rv.length, h2.length, eqb]
              refine eqbs_all hl fun j a b z1 z2 => ?_
              simp only [List.getD, z1, z2, Option.getD_some]
            rw [← hsz, Nat.min_self, e1] at base
            simpa using SeqAt.EqAt.of_refs hpq base
          · have hsz : (its.toArray.size == its2.toArray.size) = false := by
              simp only [List.size_toArray, ← rv.length, ← rv2.length, h2.length, h4.length]
              simpa using hl
            rw [hsz, Bool.and_false] at base
            rw [show eqb (.tup as) (.tup bs) = false by simp only [eqb]; exact eqbs_len hl]
            exact SeqAt.EqAt.of_refs hpq base
        · simp only [List.size_toArray] at j1 j2
          have ja : j < as.length := by rw [← h2.length, rv.length]; exact j1
          have jb : j < bs.length := by rw [← h4.length, rv2.length]; exact j2
          obtain ⟨xv, e3, r3⟩ := h2.get (i := j) (d := as[j]) (by simp [ja])
          obtain ⟨yv, e4, r4⟩ := h4.get (i := j) (d := bs[j]) (by simp [jb])
          obtain ⟨uv, e5, r5⟩ := rv.get e3
          obtain ⟨uw, e6, r6⟩ := rv2.get e4
          have e5' : its.toArray[j] = uv := by
            rw [List.getElem?_eq_getElem j1] at e5
            simpa using e5
          have e6' : its2.toArray[j] = uw := by
            rw [List.getElem?_eq_getElem j2] at e6
            simpa using e6
          rw [e5', e6']
          have ga : as.getD j .non = as[j] := by simp [List.getD, ja]
          have gb : bs.getD j .non = bs[j] := by simp [List.getD, jb]
          simp only [ga, gb]
          have hd : dep as[j] ≤ deps as := deps_get (j := j) (by simp [ja])
          exact eqAt_Ds I le as j as[j] (by simp [ja]) bs[j] (seqDs_get ha (j := j) (by simp [ja])) (seqDs_get hb (j := j) (by simp [jb])) (r3.rd le) (r4.rd le) r5 r6 (by
            simp only [dep] at hu
            show A.units + 1 + dep as[j] < cLine
            omega)
    | _ => simp [seqD] at hb
  | .ty _, _, _, _, _, _, _, ha, _, _, _, _, _, _ => by simp [seqD] at ha
  | .adr _, _, _, _, _, _, _, ha, _, _, _, _, _, _ => by simp [seqD] at ha
  | .dk _, _, _, _, _, _, _, ha, _, _, _, _, _, _ => by simp [seqD] at ha
  | .dt _, _, _, _, _, _, _, ha, _, _, _, _, _, _ => by simp [seqD] at ha
  | .obj _ _, _, _, _, _, _, _, ha, _, _, _, _, _, _ => by simp [seqD] at ha
theorem eqAt_Ds (I : Inv X pins σ H s) (le : Same F H) : ∀ (as : List D) (j : Nat) (a : D), as[j]? = some a → ∀ (b : D) {x y : V} {v u : Value} {A : Around}, seqD a = true → seqD b = true → RdAt F H a x → RdAt F H b y → RelV x v → RelV y u → A.units + dep a < cLine → SeqAt.EqAt A s v u (eqb a b)
  | [], _, _, h => by simp at h
  | a :: as, 0, a', h => fun b x y v u A h1 h2 h3 h4 h5 h6 h7 => by
    simp at h
    subst h
    exact eqAt_D I le a b h1 h2 h3 h4 h5 h6 h7
  | a :: as, j + 1, a', h => eqAt_Ds I le as j a' (by simpa using h)
end
end
end DL
/-! ## DL4 -/
namespace DL
open PySem PySem.Spec PyProof.Rows L2
open PySem.SeqAt (EqIn)
mutual
/-- no dict is held against anything else -/
def agr : D → D → Bool
  | .dk a, .dk b => agrk a b
  | .lst a, .lst b => agrs a b
  | .tup a, .tup b => agrs a b
  | a, b => seqD a && seqD b
def agrs : List D → List D → Bool
  | a :: as, b :: bs => agr a b && agrs as bs
  | _, _ => true
def agrk : List (Key × D) → List (Key × D) → Bool
  | [], _ => true
  | (k, a) :: as, bs => (match (bs.find? fun p => decide (p.1 = k)) with | some p => agr a p.2 | none => true) && agrk as bs
end
theorem agrs_get : ∀ {as bs : List D} {j : Nat} {a b : D}, agrs as bs = true → as[j]? = some a → bs[j]? = some b → agr a b = true
  | [], _, _, _, _, _, h, _ => by simp at h
  | _ :: _, [], _, _, _, _, _, h => by simp at h
  | a :: as, b :: bs, 0, _, _, h, e, e' => by
    simp at e e'; subst e; subst e'
    simp only [agrs, Bool.and_eq_true] at h
    exact h.1
  | a :: as, b :: bs, j + 1, _, _, h, e, e' => by
    simp only [agrs, Bool.and_eq_true] at h
    exact agrs_get (j := j) h.2 (by simpa using e) (by simpa using e')
theorem RepK.find {F : Hp} {k : Key} : ∀ {bs : List (Key × D)} {ks : List (Key × V)}, RepK F bs ks → (∃ p y, bs.find? (fun p => decide (p.1 = k)) = some p ∧ valV ks k = some y ∧ Rep F p.2 y ∧ p ∈ bs) ∨ (bs.find? (fun p => decide (p.1 = k)) = none ∧ valV ks k = none)
  | [], _, h => by simp only [RepK] at h; subst h; exact .inr ⟨rfl, rfl⟩
  | (k', d) :: bs, _, h => by
    simp only [RepK] at h
    obtain ⟨y, r, rfl, h1, h2⟩ := h
    by_cases e : k' = k
    · left
      exact ⟨(k', d), y, by simp [e], valV_pos e, h1, List.mem_cons_self⟩
    · rcases RepK.find (k := k) h2 with ⟨p, y', h3, h4, h5, h6⟩ | ⟨h3, h4⟩
      · left
        exact ⟨p, y', by rw [List.find?_cons_of_neg (by simpa using e)]; exact h3, by rw [valV_neg e]; exact h4, h5, List.mem_cons_of_mem _ h6⟩
      · right
        exact ⟨by rw [List.find?_cons_of_neg (by simpa using e)]; exact h3, by rw [valV_neg e]; exact h4⟩
theorem eqOkk_mem : ∀ {as : List (Key × D)} {p : Key × D}, eqOkk as = true → p ∈ as → eqOk p.2 = true
  | [], _, _, h => by simp at h
  | (k, a) :: as, p, h, hm => by
    simp only [eqOkk, Bool.and_eq_true] at h
    rcases List.mem_cons.mp hm with rfl | hm
    · exact h.1
    · exact eqOkk_mem h.2 hm
section
variable {X : Cx} {pins : List (Addr × Obj)} {σ : L2.St} {H F : Hp} {s : Shared}
theorem eqIn_same {A : Around} {v : Value} {P : Program} {w : World} : EqIn P w A s v v true := (SeqAt.EqAt.same v).inModel P w
/-- one item against another, at place j -/
theorem at_items {P : Program} {w : World} {A : Around} {as bs : List D} {vs us : List V} {its its2 : List Value} (h2 : Reps F as vs) (h4 : Reps F bs us) (rv : Vals vs its) (rv2 : Vals us its2) {j : Nat} (j1 : j < its.toArray.size) (j2 : j < its2.toArray.size)
    (k : ∀ a b xv yv uv uw, as[j]? = some a → bs[j]? = some b → Rep F a xv → Rep F b yv → RelV xv uv → RelV yv uw → EqIn P w A s uv uw (eqb a b)) : EqIn P w A s its.toArray[j] its2.toArray[j] (eqb (as.getD j .non) (bs.getD j .non)) := by
  simp only [List.size_toArray] at j1 j2
  have ja : j < as.length := by rw [← h2.length, rv.length]; exact j1
  have jb : j < bs.length := by rw [← h4.length, rv2.length]; exact j2
  obtain ⟨xv, e3, r3⟩ := h2.get (i := j) (d := as[j]) (by simp [ja])
  obtain ⟨yv, e4, r4⟩ := h4.get (i := j) (d := bs[j]) (by simp [jb])
  obtain ⟨uv, e5, r5⟩ := rv.get e3
  obtain ⟨uw, e6, r6⟩ := rv2.get e4
  have e5' : its.toArray[j] = uv := by
    rw [List.getElem?_eq_getElem j1] at e5
    simpa using e5
  have e6' : its2.toArray[j] = uw := by
    rw [List.getElem?_eq_getElem j2] at e6
    simpa using e6
  rw [e5', e6']
  have ga : as.getD j .non = as[j] := by simp [List.getD, ja]
  have gb : bs.getD j .non = bs[j] := by simp [List.getD, jb]
  rw [ga, gb]
  exact k as[j] bs[j] xv yv uv uw (by simp [ja]) (by simp [jb]) r3 r4 r5 r6
mutual
theorem eqIn_D (I : Inv X pins σ H s) (le : Same F H) : ∀ (a b : D) {x y : V} {v u : Value} {A : Around}, eqOk a = true → eqOk b = true → agr a b = true → RdAt F H a x → RdAt F H b y → RelV x v → RelV y u → A.units + dep a < cLine → EqIn X.prog X.w A s v u (eqb a b)
  | .lst as, b, x, y, v, u, A, ha, hb, hg, ra, rb, rx, ry, hu => by
    by_cases hs : seqD (.lst as) = true ∧ seqD b = true
    · exact (eqAt_D I le _ _ hs.1 hs.2 ra rb rx ry hu).inModel _ _
    · cases b with
      | lst bs =>
        obtain ⟨p, vs, rfl, h1, h2⟩ := ra
        obtain ⟨q, us, rfl, h3, h4⟩ := rb
        cases rx; cases ry
        obtain ⟨its, rv, pl, _⟩ := I.list (SqL.of h1)
        obtain ⟨its2, rv2, pl2, _⟩ := I.list (SqL.of h3)
        have hu' : A.units < cLine := by simp only [dep] at hu; omega
        simp only [eqOk] at ha hb
        simp only [agr] at hg
        by_cases hpq : p = q
        · subst hpq
          rw [h1] at h3; cases h3
          have e := reps_inj as bs ha hb h2 h4
          subst e
          rw [show eqb (.lst as) (.lst as) = true from eqb_refl _ (by simpa only [eqOk] using ha)]
          exact eqIn_same
        · by_cases hl : as.length = bs.length
          · have hsz : its.toArray.size = its2.toArray.size := by
              simp only [List.size_toArray, ← rv.length, ← rv2.length, h2.length, h4.length]
              exact hl
            have e1 : (List.range its.toArray.size).all (fun j => eqb (as.getD j .non) (bs.getD j .non)) = eqb (.lst as) (.lst bs) := by
              simp only [List.size_toArray, ← rv.length, h2.length, eqb]
              refine eqbs_all hl fun j a b z1 z2 => ?_
              simp only [List.getD, z1, z2, Option.getD_some]
            rw [← e1]
            refine SeqAt.EqIn.of_refs hpq fun E Q hq => SeqAt.rcIn_lists pl.isList pl2.isList hsz hu' (fun j j1 j2 => at_items h2 h4 rv rv2 j1 j2 fun a b xv yv uv uw z1 z2 r3 r4 r5 r6 => ?_) hq
            have hd := deps_get z1
            exact eqIn_Ds I le as j a z1 b (eqOks_get ha z1) (eqOks_get hb z2) (agrs_get hg z1 z2) (r3.rd le) (r4.rd le) r5 r6 (by
              simp only [dep] at hu
              show A.units + 1 + dep a < cLine
              omega)
          · rw [show eqb (.lst as) (.lst bs) = false by simp only [eqb]; exact eqbs_len hl]
            refine (SeqAt.EqAt.of_refs hpq (SeqAt.RcAt.lists_lengths pl.isList pl2.isList ?_ hu')).inModel _ _
            simp only [List.size_toArray, ← rv.length, ← rv2.length, h2.length, h4.length]
            simpa using hl
      | _ => simp only [agr, Bool.and_eq_true] at hg; exact absurd hg hs
  | .tup as, b, x, y, v, u, A, ha, hb, hg, ra, rb, rx, ry, hu => by
    by_cases hs : seqD (.tup as) = true ∧ seqD b = true
    · exact (eqAt_D I le _ _ hs.1 hs.2 ra rb rx ry hu).inModel _ _
    · cases b with
      | tup bs =>
        obtain ⟨p, vs, rfl, h1, h2⟩ := ra
        obtain ⟨q, us, rfl, h3, h4⟩ := rb
        cases rx; cases ry
        obtain ⟨its, rv, pl, _⟩ := I.tuple (SqT.of (le _ _ h1))
        obtain ⟨its2, rv2, pl2, _⟩ := I.tuple (SqT.of (le _ _ h3))
        have hu' : A.units < cLine := by simp only [dep] at hu; omega
        simp only [eqOk] at ha hb
        simp only [agr] at hg
        by_cases hpq : p = q
        · subst hpq
          rw [h1] at h3; cases h3
          have e := reps_inj as bs ha hb h2 h4
          subst e
          rw [show eqb (.tup as) (.tup as) = true from eqb_refl _ (by simpa only [eqOk] using ha)]
          exact eqIn_same
        · have it : ∀ j (j1 : j < its.toArray.size) (j2 : j < its2.toArray.size), EqIn X.prog X.w A.in1 s its.toArray[j] its2.toArray[j] (eqb (as.getD j .non) (bs.getD j .non)) := fun j j1 j2 =>
            at_items h2 h4 rv rv2 j1 j2 fun a b xv yv uv uw z1 z2 r3 r4 r5 r6 => by
              have hd := deps_get z1
              exact eqIn_Ds I le as j a z1 b (eqOks_get ha z1) (eqOks_get hb z2) (agrs_get hg z1 z2) (r3.rd le) (r4.rd le) r5 r6 (by
                simp only [dep] at hu
                show A.units + 1 + dep a < cLine
                omega)
          refine SeqAt.EqIn.of_refs hpq fun E Q hq => SeqAt.rcIn_tuples pl pl2 hu' (e := fun j => eqb (as.getD j .non) (bs.getD j .non)) it ?_
          by_cases hl : as.length = bs.length
          · have hsz : its.toArray.size = its2.toArray.size := by
              simp only [List.size_toArray, ← rv.length, ← rv2.length, h2.length, h4.length]
              exact hl
            have e1 : (List.range its.toArray.size).all (fun j => eqb (as.getD j .non) (bs.getD j .non)) = eqb (.tup as) (.tup bs) := by
              simp only [List.size_toArray, ← rv.length, h2.length, eqb]
              refine eqbs_all hl fun j a b z1 z2 => ?_
              simp only [List.getD, z1, z2, Option.getD_some]
            rw [← hsz, Nat.min_self, e1, beq_self_eq_true, Bool.and_true]
            exact hq
          · have hsz : (its.toArray.size == its2.toArray.size) = false := by
              simp only [List.size_toArray, ← rv.length, ← rv2.length, h2.length, h4.length]
              simpa using hl
            rw [hsz, Bool.and_false]
            rw [show eqb (.tup as) (.tup bs) = false by simp only [eqb]; exact eqbs_len hl] at hq
            exact hq
      | _ => simp only [agr, Bool.and_eq_true] at hg; exact absurd hg hs
  | .dk as, b, x, y, v, u, A, ha, hb, hg, ra, rb, rx, ry, hu => by
    cases b with
    | dk bs =>
      obtain ⟨p, vs, rfl, h1, h2⟩ := ra
      obtain ⟨q, us, rfl, h3, h4⟩ := rb
      cases rx; cases ry
      have hu' : A.units < cLine := by simp only [dep] at hu; omega
      simp only [eqOk, Bool.and_eq_true, decide_eq_true_eq] at ha hb
      simp only [agr] at hg
      obtain ⟨_, ya, va, r1, da⟩ := (show ObjOk X.prog X.w H s.heap p (.dK vs) from h1.ok I.hok)
      obtain ⟨_, yb, vb, r2, db⟩ := (show ObjOk X.prog X.w H s.heap q (.dK us) from h3.ok I.hok)
      by_cases hpq : p = q
      · subst hpq
        have e : vs = us := by
          rcases h1 with h1 | ⟨o1, h1⟩ <;> rcases h3 with h3 | ⟨o3, h3⟩ <;> (rw [h1] at h3; cases h3 <;> rfl)
        subst e
        have e := repk_inj as bs ha.1 hb.1 h2 h4
        subst e
        rw [show eqb (.dk as) (.dk as) = true from eqb_refl _ (by simp only [eqOk, Bool.and_eq_true, decide_eq_true_eq]; exact ha)]
        exact eqIn_same
      · refine SeqAt.EqIn.of_refs hpq fun E Q hq => PySem.W.keq_eqIn (knd := mixKind X.prog X.w) (r := eqbk as bs) ya yb da db hu' (fun _ => ?_) ?_
        · exact hits_D I le as h2 r1 (fun k => by
            rcases h4.find (k := k) with ⟨p', y', z1, z2, z3, z4⟩ | ⟨z1, z2⟩
            · left
              have rr : RelO (some y') (valueAt vb k) := by rw [← z2]; exact r2.val k
              obtain ⟨w', hw, rw'⟩ := rr.some_of
              exact ⟨p', y', w', z1, hw, z3, rw', eqOkk_mem hb.1 z4⟩
            · right
              have rr : RelO none (valueAt vb k) := by rw [← z2]; exact r2.val k
              refine ⟨z1, ?_⟩
              cases hv : valueAt vb k with
              | none => rfl
              | some z => rw [hv] at rr; exact rr.elim) ha.1 hg (by
            simp only [dep] at hu
            show A.units + 1 + depk as < cLine
            omega)
        · have e1 : va.length = as.length := by rw [← r1.length, h2.length]
          have e2 : vb.length = bs.length := by rw [← r2.length, h4.length]
          rw [e1, e2]
          simpa only [eqb] using hq
    | _ => simp [agr, seqD] at hg
  | .non, b, x, y, v, u, A, ha, hb, hg, ra, rb, rx, ry, hu => by
    have hs : seqD .non = true ∧ seqD b = true := by cases b <;> simpa [agr] using hg
    exact (eqAt_D I le _ _ hs.1 hs.2 ra rb rx ry hu).inModel _ _
  | .bl c, b, x, y, v, u, A, ha, hb, hg, ra, rb, rx, ry, hu => by
    have hs : seqD (.bl c) = true ∧ seqD b = true := by cases b <;> simpa [agr] using hg
    exact (eqAt_D I le _ _ hs.1 hs.2 ra rb rx ry hu).inModel _ _
  | .int c, b, x, y, v, u, A, ha, hb, hg, ra, rb, rx, ry, hu => by
    have hs : seqD (.int c) = true ∧ seqD b = true := by cases b <;> simpa [agr] using hg
    exact (eqAt_D I le _ _ hs.1 hs.2 ra rb rx ry hu).inModel _ _
  | .str c, b, x, y, v, u, A, ha, hb, hg, ra, rb, rx, ry, hu => by
    have hs : seqD (.str c) = true ∧ seqD b = true := by cases b <;> simpa [agr] using hg
    exact (eqAt_D I le _ _ hs.1 hs.2 ra rb rx ry hu).inModel _ _
  | .ty _, _, _, _, _, _, _, ha, _, _, _, _, _, _, _ => by simp [eqOk] at ha
  | .adr _, _, _, _, _, _, _, ha, _, _, _, _, _, _, _ => by simp [eqOk] at ha
  | .dt _, _, _, _, _, _, _, ha, _, _, _, _, _, _, _ => by simp [eqOk] at ha
  | .obj _ _, _, _, _, _, _, _, ha, _, _, _, _, _, _, _ => by simp [eqOk] at ha
theorem eqIn_Ds (I : Inv X pins σ H s) (le : Same F H) : ∀ (as : List D) (j : Nat) (a : D), as[j]? = some a → ∀ (b : D) {x y : V} {v u : Value} {A : Around}, eqOk a = true → eqOk b = true → agr a b = true → RdAt F H a x → RdAt F H b y → RelV x v → RelV y u → A.units + dep a < cLine → EqIn X.prog X.w A s v u (eqb a b)
  | [], _, _, h => by simp at h
  | a :: as, 0, a', h => fun b x y v u A h1 h2 h3 h4 h5 h6 h7 h8 => by
    simp at h
    subst h
    exact eqIn_D I le a b h1 h2 h3 h4 h5 h6 h7 h8
  | a :: as, j + 1, a', h => eqIn_Ds I le as j a' (by simpa using h)
theorem hits_D (I : Inv X pins σ H s) (le : Same F H) : ∀ (as : List (Key × D)) {A : Around} {bs : List (Key × D)} {vs : List (Key × V)} {va vb : List (Key × Value)}, RepK F as vs → KV vs va →
    (∀ k, (∃ p y w', bs.find? (fun p => decide (p.1 = k)) = some p ∧ valueAt vb k = some w' ∧ Rep F p.2 y ∧ RelV y w' ∧ eqOk p.2 = true) ∨ (bs.find? (fun p => decide (p.1 = k)) = none ∧ valueAt vb k = none)) →
    eqOkk as = true → agrk as bs = true → A.units + depk as < cLine → PySem.W.KeqHitsIn X.prog X.w A s vb va (eqbk as bs)
  | [], A, bs, vs, va, vb, h2, r1, _, _, _, _ => by
    simp only [RepK] at h2; subst h2
    cases r1
    simp only [eqbk]
    exact .nil
  | (k, a) :: as, A, bs, vs, va, vb, h2, r1, hb, ha, hg, hu => by
    simp only [RepK] at h2
    obtain ⟨x, r, rfl, h3, h4⟩ := h2
    cases r1 with
    | @cons _ q _ qs r5 r6 =>
      obtain ⟨kq, vq⟩ := q
      obtain ⟨e1, rx⟩ := r5
      simp only at e1 rx
      subst e1
      simp only [eqOkk, Bool.and_eq_true] at ha
      simp only [agrk, Bool.and_eq_true] at hg
      simp only [depk] at hu
      have ih := hits_D I le as (A := A) (bs := bs) (vb := vb) h4 r6 hb ha.2 hg.2 (by omega)
      simp only [eqbk]
      rcases hb k with ⟨p, y, w', z1, z2, z3, z4, z5⟩ | ⟨z1, z2⟩
      · rw [z1] at hg ⊢
        exact .hit z2 (eqIn_D I le a p.2 ha.1 z5 hg.1 (h3.rd le) (z3.rd le) rx z4 (by omega)) ih
      · rw [z1]
        exact .miss z2
end
end

/-! ### == and != by values -/
section
variable {X : Cx} {pins : List (Addr × Obj)} {σ : L2.St} {H F : Hp} {s : Shared}
theorem at_itemsA {A : Around} {as bs : List D} {vs us : List V} {its its2 : List Value} (h2 : Reps F as vs) (h4 : Reps F bs us) (rv : Vals vs its) (rv2 : Vals us its2) {j : Nat} (j1 : j < its.toArray.size) (j2 : j < its2.toArray.size)
    (k : ∀ a b xv yv uv uw, as[j]? = some a → bs[j]? = some b → Rep F a xv → Rep F b yv → RelV xv uv → RelV yv uw → SeqAt.EqAt A s uv uw (eqb a b)) : SeqAt.EqAt A s its.toArray[j] its2.toArray[j] (eqb (as.getD j .non) (bs.getD j .non)) := by
  simp only [List.size_toArray] at j1 j2
  have ja : j < as.length := by rw [← h2.length, rv.length]; exact j1
  have jb : j < bs.length := by rw [← h4.length, rv2.length]; exact j2
  obtain ⟨xv, e3, r3⟩ := h2.get (i := j) (d := as[j]) (by simp [ja])
  obtain ⟨yv, e4, r4⟩ := h4.get (i := j) (d := bs[j]) (by simp [jb])
  obtain ⟨uv, e5, r5⟩ := rv.get e3
  obtain ⟨uw, e6, r6⟩ := rv2.get e4
  have e5' : its.toArray[j] = uv := by
    rw [List.getElem?_eq_getElem j1] at e5
    simpa using e5
  have e6' : its2.toArray[j] = uw := by
    rw [List.getElem?_eq_getElem j2] at e6
    simpa using e6
  rw [e5', e6']
  have ga : as.getD j .non = as[j] := by simp [List.getD, ja]
  have gb : bs.getD j .non = bs[j] := by simp [List.getD, jb]
  rw [ga, gb]
  exact k as[j] bs[j] xv yv uv uw (by simp [ja]) (by simp [jb]) r3 r4 r5 r6
theorem rcAt_D (I : Inv X pins σ H s) (le : Same F H) (a b : D) {x y : V} {v u : Value} {A : Around} (ha : seqD a = true) (hb : seqD b = true) (ra : RdAt F H a x) (rb : RdAt F H b y) (rx : RelV x v) (ry : RelV y u) (hu : A.units + dep a < cLine) : SeqAt.RcAt A s v u ((eqb a b)) := by
  have hu' : A.units < cLine := by omega
  cases a with
  | non =>
    cases (show x = V.non from ra)
    cases rx
    cases b with
    | non => cases (show y = V.non from rb); cases ry; exact SeqAt.RcAt.none_none
    | bl d => cases (show y = V.bl d from rb); cases ry; exact SeqAt.RcAt.none_bool d
    | int d => cases (show y = V.int d from rb); obtain ⟨t', rfl⟩ := ry; exact SeqAt.RcAt.none_int d t'
    | str d => cases (show y = V.str d from rb); obtain ⟨t', rfl⟩ := ry; exact SeqAt.RcAt.none_str d t'
    | lst d =>
      obtain ⟨p, vs, rfl, h1, h2⟩ := rb
      cases ry
      obtain ⟨_, _, pl, _⟩ := I.list (SqL.of h1)
      exact SeqAt.RcAt.none_list pl.isList hu'
    | tup d =>
      obtain ⟨p, vs, rfl, h1, h2⟩ := rb
      cases ry
      obtain ⟨_, _, pl, _⟩ := I.tuple (SqT.of (le _ _ h1))
      exact SeqAt.RcAt.none_tuple pl hu'
    | _ => simp [seqD] at hb
  | bl c =>
    cases (show x = V.bl c from ra)
    cases rx
    cases b with
    | non => cases (show y = V.non from rb); cases ry; exact SeqAt.RcAt.bool_none c
    | bl d => cases (show y = V.bl d from rb); cases ry; exact SeqAt.RcAt.bool_bool c d
    | int d => cases (show y = V.int d from rb); obtain ⟨t', rfl⟩ := ry; exact SeqAt.RcAt.bool_int c d t'
    | str d => cases (show y = V.str d from rb); obtain ⟨t', rfl⟩ := ry; exact SeqAt.RcAt.bool_str c d t'
    | lst d =>
      obtain ⟨p, vs, rfl, h1, h2⟩ := rb
      cases ry
      obtain ⟨_, _, pl, _⟩ := I.list (SqL.of h1)
      exact SeqAt.RcAt.bool_list c pl.isList hu'
    | tup d =>
      obtain ⟨p, vs, rfl, h1, h2⟩ := rb
      cases ry
      obtain ⟨_, _, pl, _⟩ := I.tuple (SqT.of (le _ _ h1))
      exact SeqAt.RcAt.bool_tuple c pl hu'
    | _ => simp [seqD] at hb
  | int c =>
    cases (show x = V.int c from ra)
    obtain ⟨t, rfl⟩ := rx
    cases b with
    | non => cases (show y = V.non from rb); cases ry; exact SeqAt.RcAt.int_none c t
    | bl d => cases (show y = V.bl d from rb); cases ry; exact SeqAt.RcAt.int_bool c t d
    | int d => cases (show y = V.int d from rb); obtain ⟨t', rfl⟩ := ry; exact SeqAt.RcAt.int_int c t d t'
    | str d => cases (show y = V.str d from rb); obtain ⟨t', rfl⟩ := ry; exact SeqAt.RcAt.int_str c t d t'
    | lst d =>
      obtain ⟨p, vs, rfl, h1, h2⟩ := rb
      cases ry
      obtain ⟨_, _, pl, _⟩ := I.list (SqL.of h1)
      exact SeqAt.RcAt.int_list c t pl.isList hu'
    | tup d =>
      obtain ⟨p, vs, rfl, h1, h2⟩ := rb
      cases ry
      obtain ⟨_, _, pl, _⟩ := I.tuple (SqT.of (le _ _ h1))
      exact SeqAt.RcAt.int_tuple c t pl hu'
    | _ => simp [seqD] at hb
  | str c =>
    cases (show x = V.str c from ra)
    obtain ⟨t, rfl⟩ := rx
    cases b with
    | non => cases (show y = V.non from rb); cases ry; exact SeqAt.RcAt.str_none c t
    | bl d => cases (show y = V.bl d from rb); cases ry; exact SeqAt.RcAt.str_bool c t d
    | int d => cases (show y = V.int d from rb); obtain ⟨t', rfl⟩ := ry; exact SeqAt.RcAt.str_int c t d t'
    | str d => cases (show y = V.str d from rb); obtain ⟨t', rfl⟩ := ry; exact SeqAt.RcAt.str_str c t d t'
    | lst d =>
      obtain ⟨p, vs, rfl, h1, h2⟩ := rb
      cases ry
      obtain ⟨_, _, pl, _⟩ := I.list (SqL.of h1)
      exact SeqAt.RcAt.str_list c t pl.isList hu'
    | tup d =>
      obtain ⟨p, vs, rfl, h1, h2⟩ := rb
      cases ry
      obtain ⟨_, _, pl, _⟩ := I.tuple (SqT.of (le _ _ h1))
      exact SeqAt.RcAt.str_tuple c t pl hu'
    | _ => simp [seqD] at hb
  | lst as =>
    obtain ⟨p, vs, rfl, h1, h2⟩ := ra
    cases rx
    obtain ⟨its, rv, pl, _⟩ := I.list (SqL.of h1)
    cases b with
    | non => cases (show y = V.non from rb); cases ry; exact SeqAt.RcAt.list_none pl.isList hu'
    | bl d => cases (show y = V.bl d from rb); cases ry; exact SeqAt.RcAt.list_bool d pl.isList hu'
    | int d => cases (show y = V.int d from rb); obtain ⟨t', rfl⟩ := ry; exact SeqAt.RcAt.list_int d t' pl.isList hu'
    | str d => cases (show y = V.str d from rb); obtain ⟨t', rfl⟩ := ry; exact SeqAt.RcAt.list_str d t' pl.isList hu'
    | lst bs =>
      obtain ⟨q, us, rfl, h3, h4⟩ := rb
      cases ry
      obtain ⟨its2, rv2, pl2, _⟩ := I.list (SqL.of h3)
      simp only [seqD] at ha hb
      have it : ∀ j (j1 : j < its.toArray.size) (j2 : j < its2.toArray.size), SeqAt.EqAt A.in1 s its.toArray[j] its2.toArray[j] (eqb (as.getD j .non) (bs.getD j .non)) := fun j j1 j2 =>
        at_itemsA h2 h4 rv rv2 j1 j2 fun a b xv yv uv uw z1 z2 r3 r4 r5 r6 => by
          have hd := deps_get z1
          exact eqAt_D I le a b (seqDs_get ha z1) (seqDs_get hb z2) (r3.rd le) (r4.rd le) r5 r6 (by
            simp only [dep] at hu
            show A.units + 1 + dep a < cLine
            omega)
      by_cases hl : as.length = bs.length
      · have hsz : its.toArray.size = its2.toArray.size := by
          simp only [List.size_toArray, ← rv.length, ← rv2.length, h2.length, h4.length]
          exact hl
        have e1 : (List.range its.toArray.size).all (fun j => eqb (as.getD j .non) (bs.getD j .non)) = eqb (.lst as) (.lst bs) := by
          simp only [List.size_toArray, ← rv.length, h2.length, eqb]
          refine eqbs_all hl fun j a b z1 z2 => ?_
          simp only [List.getD, z1, z2, Option.getD_some]
        rw [← e1]
        exact SeqAt.RcAt.lists pl.isList pl2.isList hsz hu' it
      · rw [show eqb (.lst as) (.lst bs) = false by simp only [eqb]; exact eqbs_len hl]
        refine SeqAt.RcAt.lists_lengths pl.isList pl2.isList ?_ hu'
        simp only [List.size_toArray, ← rv.length, ← rv2.length, h2.length, h4.length]
        simpa using hl
    | tup d =>
      obtain ⟨q, us, rfl, h3, h4⟩ := rb
      cases ry
      obtain ⟨_, _, pl2, _⟩ := I.tuple (SqT.of (le _ _ h3))
      exact SeqAt.RcAt.list_tuple pl.isList pl2 hu'
    | _ => simp [seqD] at hb
  | tup as =>
    obtain ⟨p, vs, rfl, h1, h2⟩ := ra
    cases rx
    obtain ⟨its, rv, pl, _⟩ := I.tuple (SqT.of (le _ _ h1))
    cases b with
    | non => cases (show y = V.non from rb); cases ry; exact SeqAt.RcAt.tuple_none pl hu'
    | bl d => cases (show y = V.bl d from rb); cases ry; exact SeqAt.RcAt.tuple_bool d pl hu'
    | int d => cases (show y = V.int d from rb); obtain ⟨t', rfl⟩ := ry; exact SeqAt.RcAt.tuple_int d t' pl hu'
    | str d => cases (show y = V.str d from rb); obtain ⟨t', rfl⟩ := ry; exact SeqAt.RcAt.tuple_str d t' pl hu'
    | lst d =>
      obtain ⟨q, us, rfl, h3, h4⟩ := rb
      cases ry
      obtain ⟨_, _, pl2, _⟩ := I.list (SqL.of h3)
      exact SeqAt.RcAt.tuple_list pl pl2.isList hu'
    | tup bs =>
      obtain ⟨q, us, rfl, h3, h4⟩ := rb
      cases ry
      obtain ⟨its2, rv2, pl2, _⟩ := I.tuple (SqT.of (le _ _ h3))
      simp only [seqD] at ha hb
      have it : ∀ j (j1 : j < its.toArray.size) (j2 : j < its2.toArray.size), SeqAt.EqAt A.in1 s its.toArray[j] its2.toArray[j] (eqb (as.getD j .non) (bs.getD j .non)) := fun j j1 j2 =>
        at_itemsA h2 h4 rv rv2 j1 j2 fun a b xv yv uv uw z1 z2 r3 r4 r5 r6 => by
          have hd := deps_get z1
          exact eqAt_D I le a b (seqDs_get ha z1) (seqDs_get hb z2) (r3.rd le) (r4.rd le) r5 r6 (by
            simp only [dep] at hu
            show A.units + 1 + dep a < cLine
            omega)
      have base := SeqAt.RcAt.tuples (A := A) (e := fun j => eqb (as.getD j .non) (bs.getD j .non)) pl pl2 hu' it
      by_cases hl : as.length = bs.length
      · have hsz : its.toArray.size = its2.toArray.size := by
          simp only [List.size_toArray, ← rv.length, ← rv2.length, h2.length, h4.length]
          exact hl
        have e1 : (List.range its.toArray.size).all (fun j => eqb (as.getD j .non) (bs.getD j .non)) = eqb (.tup as) (.tup bs) := by
          simp only [List.size_toArray, ← rv.length, h2.length, eqb]
          refine eqbs_all hl fun j a b z1 z2 => ?_
          simp only [List.getD, z1, z2, Option.getD_some]
        rw [← hsz, Nat.min_self, e1] at base
        simpa using base
      · have hsz : (its.toArray.size == its2.toArray.size) = false := by
          simp only [List.size_toArray, ← rv.length, ← rv2.length, h2.length, h4.length]
          simpa using hl
        rw [hsz, Bool.and_false] at base
        rw [show eqb (.tup as) (.tup bs) = false by simp only [eqb]; exact eqbs_len hl]
        exact base
    | _ => simp [seqD] at hb
  | _ => simp [seqD] at ha
theorem rcneAt_D (I : Inv X pins σ H s) (le : Same F H) (a b : D) {x y : V} {v u : Value} {A : Around} (ha : seqD a = true) (hb : seqD b = true) (ra : RdAt F H a x) (rb : RdAt F H b y) (rx : RelV x v) (ry : RelV y u) (hu : A.units + dep a < cLine) : SeqAt.RcNeAt A s v u (!(eqb a b)) := by
  have hu' : A.units < cLine := by omega
  cases a with
  | non =>
    cases (show x = V.non from ra)
    cases rx
    cases b with
    | non => cases (show y = V.non from rb); cases ry; exact SeqAt.RcNeAt.none_none
    | bl d => cases (show y = V.bl d from rb); cases ry; exact SeqAt.RcNeAt.none_bool d
    | int d => cases (show y = V.int d from rb); obtain ⟨t', rfl⟩ := ry; exact SeqAt.RcNeAt.none_int d t'
    | str d => cases (show y = V.str d from rb); obtain ⟨t', rfl⟩ := ry; exact SeqAt.RcNeAt.none_str d t'
    | lst d =>
      obtain ⟨p, vs, rfl, h1, h2⟩ := rb
      cases ry
      obtain ⟨_, _, pl, _⟩ := I.list (SqL.of h1)
      exact SeqAt.RcNeAt.none_list pl.isList hu'
    | tup d =>
      obtain ⟨p, vs, rfl, h1, h2⟩ := rb
      cases ry
      obtain ⟨_, _, pl, _⟩ := I.tuple (SqT.of (le _ _ h1))
      exact SeqAt.RcNeAt.none_tuple pl hu'
    | _ => simp [seqD] at hb
  | bl c =>
    cases (show x = V.bl c from ra)
    cases rx
    cases b with
    | non => cases (show y = V.non from rb); cases ry; exact SeqAt.RcNeAt.bool_none c
    | bl d => cases (show y = V.bl d from rb); cases ry; exact SeqAt.RcNeAt.bool_bool c d
    | int d => cases (show y = V.int d from rb); obtain ⟨t', rfl⟩ := ry; exact SeqAt.RcNeAt.bool_int c d t'
    | str d => cases (show y = V.str d from rb); obtain ⟨t', rfl⟩ := ry; exact SeqAt.RcNeAt.bool_str c d t'
    | lst d =>
      obtain ⟨p, vs, rfl, h1, h2⟩ := rb
      cases ry
      obtain ⟨_, _, pl, _⟩ := I.list (SqL.of h1)
      exact SeqAt.RcNeAt.bool_list c pl.isList hu'
    | tup d =>
      obtain ⟨p, vs, rfl, h1, h2⟩ := rb
      cases ry
      obtain ⟨_, _, pl, _⟩ := I.tuple (SqT.of (le _ _ h1))
      exact SeqAt.RcNeAt.bool_tuple c pl hu'
    | _ => simp [seqD] at hb
  | int c =>
    cases (show x = V.int c from ra)
    obtain ⟨t, rfl⟩ := rx
    cases b with
    | non => cases (show y = V.non from rb); cases ry; exact SeqAt.RcNeAt.int_none c t
    | bl d => cases (show y = V.bl d from rb); cases ry; exact SeqAt.RcNeAt.int_bool c t d
    | int d => cases (show y = V.int d from rb); obtain ⟨t', rfl⟩ := ry; exact SeqAt.RcNeAt.int_int c t d t'
    | str d => cases (show y = V.str d from rb); obtain ⟨t', rfl⟩ := ry; exact SeqAt.RcNeAt.int_str c t d t'
    | lst d =>
      obtain ⟨p, vs, rfl, h1, h2⟩ := rb
      cases ry
      obtain ⟨_, _, pl, _⟩ := I.list (SqL.of h1)
      exact SeqAt.RcNeAt.int_list c t pl.isList hu'
    | tup d =>
      obtain ⟨p, vs, rfl, h1, h2⟩ := rb
      cases ry
      obtain ⟨_, _, pl, _⟩ := I.tuple (SqT.of (le _ _ h1))
      exact SeqAt.RcNeAt.int_tuple c t pl hu'
    | _ => simp [seqD] at hb
  | str c =>
    cases (show x = V.str c from ra)
    obtain ⟨t, rfl⟩ := rx
    cases b with
    | non => cases (show y = V.non from rb); cases ry; exact SeqAt.RcNeAt.str_none c t
    | bl d => cases (show y = V.bl d from rb); cases ry; exact SeqAt.RcNeAt.str_bool c t d
    | int d => cases (show y = V.int d from rb); obtain ⟨t', rfl⟩ := ry; exact SeqAt.RcNeAt.str_int c t d t'
    | str d => cases (show y = V.str d from rb); obtain ⟨t', rfl⟩ := ry; exact SeqAt.RcNeAt.str_str c t d t'
    | lst d =>
      obtain ⟨p, vs, rfl, h1, h2⟩ := rb
      cases ry
      obtain ⟨_, _, pl, _⟩ := I.list (SqL.of h1)
      exact SeqAt.RcNeAt.str_list c t pl.isList hu'
    | tup d =>
      obtain ⟨p, vs, rfl, h1, h2⟩ := rb
      cases ry
      obtain ⟨_, _, pl, _⟩ := I.tuple (SqT.of (le _ _ h1))
      exact SeqAt.RcNeAt.str_tuple c t pl hu'
    | _ => simp [seqD] at hb
  | lst as =>
    obtain ⟨p, vs, rfl, h1, h2⟩ := ra
    cases rx
    obtain ⟨its, rv, pl, _⟩ := I.list (SqL.of h1)
    cases b with
    | non => cases (show y = V.non from rb); cases ry; exact SeqAt.RcNeAt.list_none pl.isList hu'
    | bl d => cases (show y = V.bl d from rb); cases ry; exact SeqAt.RcNeAt.list_bool d pl.isList hu'
    | int d => cases (show y = V.int d from rb); obtain ⟨t', rfl⟩ := ry; exact SeqAt.RcNeAt.list_int d t' pl.isList hu'
    | str d => cases (show y = V.str d from rb); obtain ⟨t', rfl⟩ := ry; exact SeqAt.RcNeAt.list_str d t' pl.isList hu'
    | lst bs =>
      obtain ⟨q, us, rfl, h3, h4⟩ := rb
      cases ry
      obtain ⟨its2, rv2, pl2, _⟩ := I.list (SqL.of h3)
      simp only [seqD] at ha hb
      have it : ∀ j (j1 : j < its.toArray.size) (j2 : j < its2.toArray.size), SeqAt.EqAt A.in1 s its.toArray[j] its2.toArray[j] (eqb (as.getD j .non) (bs.getD j .non)) := fun j j1 j2 =>
        at_itemsA h2 h4 rv rv2 j1 j2 fun a b xv yv uv uw z1 z2 r3 r4 r5 r6 => by
          have hd := deps_get z1
          exact eqAt_D I le a b (seqDs_get ha z1) (seqDs_get hb z2) (r3.rd le) (r4.rd le) r5 r6 (by
            simp only [dep] at hu
            show A.units + 1 + dep a < cLine
            omega)
      by_cases hl : as.length = bs.length
      · have hsz : its.toArray.size = its2.toArray.size := by
          simp only [List.size_toArray, ← rv.length, ← rv2.length, h2.length, h4.length]
          exact hl
        have e1 : (List.range its.toArray.size).all (fun j => eqb (as.getD j .non) (bs.getD j .non)) = eqb (.lst as) (.lst bs) := by
          simp only [List.size_toArray, ← rv.length, h2.length, eqb]
          refine eqbs_all hl fun j a b z1 z2 => ?_
          simp only [List.getD, z1, z2, Option.getD_some]
        rw [← e1]
        exact SeqAt.RcNeAt.lists pl.isList pl2.isList hsz hu' it
      · rw [show eqb (.lst as) (.lst bs) = false by simp only [eqb]; exact eqbs_len hl]
        refine SeqAt.RcNeAt.lists_lengths pl.isList pl2.isList ?_ hu'
        simp only [List.size_toArray, ← rv.length, ← rv2.length, h2.length, h4.length]
        simpa using hl
    | tup d =>
      obtain ⟨q, us, rfl, h3, h4⟩ := rb
      cases ry
      obtain ⟨_, _, pl2, _⟩ := I.tuple (SqT.of (le _ _ h3))
      exact SeqAt.RcNeAt.list_tuple pl.isList pl2 hu'
    | _ => simp [seqD] at hb
  | tup as =>
    obtain ⟨p, vs, rfl, h1, h2⟩ := ra
    cases rx
    obtain ⟨its, rv, pl, _⟩ := I.tuple (SqT.of (le _ _ h1))
    cases b with
    | non => cases (show y = V.non from rb); cases ry; exact SeqAt.RcNeAt.tuple_none pl hu'
    | bl d => cases (show y = V.bl d from rb); cases ry; exact SeqAt.RcNeAt.tuple_bool d pl hu'
    | int d => cases (show y = V.int d from rb); obtain ⟨t', rfl⟩ := ry; exact SeqAt.RcNeAt.tuple_int d t' pl hu'
    | str d => cases (show y = V.str d from rb); obtain ⟨t', rfl⟩ := ry; exact SeqAt.RcNeAt.tuple_str d t' pl hu'
    | lst d =>
      obtain ⟨q, us, rfl, h3, h4⟩ := rb
      cases ry
      obtain ⟨_, _, pl2, _⟩ := I.list (SqL.of h3)
      exact SeqAt.RcNeAt.tuple_list pl pl2.isList hu'
    | tup bs =>
      obtain ⟨q, us, rfl, h3, h4⟩ := rb
      cases ry
      obtain ⟨its2, rv2, pl2, _⟩ := I.tuple (SqT.of (le _ _ h3))
      simp only [seqD] at ha hb
      have it : ∀ j (j1 : j < its.toArray.size) (j2 : j < its2.toArray.size), SeqAt.EqAt A.in1 s its.toArray[j] its2.toArray[j] (eqb (as.getD j .non) (bs.getD j .non)) := fun j j1 j2 =>
        at_itemsA h2 h4 rv rv2 j1 j2 fun a b xv yv uv uw z1 z2 r3 r4 r5 r6 => by
          have hd := deps_get z1
          exact eqAt_D I le a b (seqDs_get ha z1) (seqDs_get hb z2) (r3.rd le) (r4.rd le) r5 r6 (by
            simp only [dep] at hu
            show A.units + 1 + dep a < cLine
            omega)
      have base := SeqAt.RcNeAt.tuples (A := A) (e := fun j => eqb (as.getD j .non) (bs.getD j .non)) pl pl2 hu' it
      by_cases hl : as.length = bs.length
      · have hsz : its.toArray.size = its2.toArray.size := by
          simp only [List.size_toArray, ← rv.length, ← rv2.length, h2.length, h4.length]
          exact hl
        have e1 : (List.range its.toArray.size).all (fun j => eqb (as.getD j .non) (bs.getD j .non)) = eqb (.tup as) (.tup bs) := by
          simp only [List.size_toArray, ← rv.length, h2.length, eqb]
          refine eqbs_all hl fun j a b z1 z2 => ?_
          simp only [List.getD, z1, z2, Option.getD_some]
        rw [← hsz, Nat.min_self, e1] at base
        simpa using base
      · have hsz : (its.toArray.size == its2.toArray.size) = false := by
          simp only [List.size_toArray, ← rv.length, ← rv2.length, h2.length, h4.length]
          simpa using hl
        rw [hsz, Bool.and_false] at base
        rw [show eqb (.tup as) (.tup bs) = false by simp only [eqb]; exact eqbs_len hl]
        exact base
    | _ => simp [seqD] at hb
  | _ => simp [seqD] at ha
end
/-! ### the operators -/
section
variable {X : Cx}
def addD : D → D → (D → Prop) → Prop
  | .int i, .int j, k => k (.int (i + j))
  | .str a, .str b, k => a.length + b.length ≤ lim ∧ k (.str (a ++ b))
  | .lst a, .lst b, k => a.length + b.length ≤ lim ∧ k (.lst (a ++ b))
  | .tup a, .tup b, k => a.length + b.length ≤ lim ∧ k (.tup (a ++ b))
  | _, _, _ => False
theorem d2_add : D2 X (binaryOp .Add) addD := by
  intro F H a b x y k le ra rb h
  cases a <;> cases b <;> first | exact h.elim | skip
  · cases (show x = _ from ra); cases (show y = _ from rb)
    exact W2.of op_add ⟨_, _, rfl, rfl, .same (d := .int _) (by simp only [Rep]) h⟩
  · cases (show x = _ from ra); cases (show y = _ from rb)
    exact W2.of op_add_str ⟨_, _, rfl, rfl, by rw [lim_eq]; exact h.1, .same (d := .str _) (by simp only [Rep]) h.2⟩
  · obtain ⟨p, vs, rfl, h1, h2⟩ := ra
    obtain ⟨q, us, rfl, h3, h4⟩ := rb
    refine W2.of op_cat ⟨p, q, vs, us, rfl, rfl, h1, h3, by rw [lim_eq, h2.length, h4.length]; exact h.1, fun r hr => ?_⟩
    exact .lst le hr (h2.app h4) h.2
  · rename_i as bs
    obtain ⟨p, vs, rfl, h1, h2⟩ := ra
    obtain ⟨q, us, rfl, h3, h4⟩ := rb
    have e1 := h2.isEmpty
    have e2 := h4.isEmpty
    refine W2.of op_catA ⟨p, q, vs, us, rfl, rfl, SqT.of (le _ _ h1), SqT.of (le _ _ h3), by rw [lim_eq, h2.length, h4.length]; exact h.1, fun e => ?_, fun _ e => ?_, fun _ _ r hr => .tup le hr (h2.app h4) h.2⟩
    · subst e
      have : as = [] := by simpa using e1.symm
      subst this
      exact .same (d := .tup bs) (by simp only [Rep]; exact ⟨q, us, rfl, h3, h4⟩) (by simpa using h.2)
    · subst e
      have : bs = [] := by simpa using e2.symm
      subst this
      exact .same (d := .tup as) (by simp only [Rep]; exact ⟨p, vs, rfl, h1, h2⟩) (by simpa using h.2)
/-- ints -/
def intD (C : Int → Int → Prop) (g : Int → Int → D) : D → D → (D → Prop) → Prop
  | .int i, .int j, k => C i j ∧ k (g i j)
  | _, _, _ => False
theorem d2_int {o : Value → Value → Sem Value} {C C' : Int → Int → Prop} {g : Int → Int → V} {g' : Int → Int → D} (ho : OpR X o (rI C g)) (hc : ∀ i j, C' i j → C i j) (hg : ∀ F i j, Rep F (g' i j) (g i j)) : D2 X o (intD C' g') := by
  intro F H a b x y k le ra rb h
  cases a <;> cases b <;> first | exact h.elim | skip
  cases (show x = _ from ra); cases (show y = _ from rb)
  exact W2.of ho ⟨_, _, rfl, rfl, hc _ _ h.1, .same (hg F _ _) h.2⟩
theorem d2_int0 {o : Value → Value → Sem Value} {g : Int → Int → V} {g' : Int → Int → D} (ho : OpR X o (rI0 g)) (hg : ∀ F i j, Rep F (g' i j) (g i j)) : D2 X o (intD (fun _ _ => True) g') := by
  intro F H a b x y k le ra rb h
  cases a <;> cases b <;> first | exact h.elim | skip
  cases (show x = _ from ra); cases (show y = _ from rb)
  exact W2.of ho ⟨_, _, rfl, rfl, .same (hg F _ _) h.2⟩
abbrev subD := intD (fun _ _ => True) fun i j => .int (i - j)
abbrev mulD := intD (fun i j => i.natAbs < 2 ^ 64 ∨ j.natAbs < 2 ^ 64) fun i j => .int (i * j)
abbrev modD := intD (fun _ j => 0 < j) fun i j => .int (i % j)
abbrev fdivD := intD (fun _ j => 0 < j ∧ j < 1073741824) fun i j => .int (i / j)
theorem d2_sub : D2 X (binaryOp .Sub) subD := d2_int0 op_sub fun _ _ _ => by simp only [Rep]
theorem d2_mul : D2 X (binaryOp .Mult) mulD := d2_int op_mul (fun i j h => h.elim (fun h => .inl (by omega)) fun h => .inr (by omega)) fun _ _ _ => by simp only [Rep]
theorem d2_mod : D2 X (binaryOp .Mod) modD := d2_int op_mod (fun _ _ h => h) fun _ _ _ => by simp only [Rep]
theorem d2_fdiv : D2 X (binaryOp .FloorDiv) fdivD := d2_int op_fdiv (fun _ _ h => h) fun _ _ _ => by simp only [Rep]
/-- comparisons -/
def slt (a b : Str) : Bool := decide (a.cps.toList < b.cps.toList)
def ltD : D → D → (D → Prop) → Prop
  | .int i, .int j, k => k (.bl (decide (i < j)))
  | .str a, .str b, k => k (.bl (slt a b))
  | _, _, _ => False
theorem d2_lt : D2 X (compareOp .Lt) ltD := by
  intro F H a b x y k le ra rb h
  cases a <;> cases b <;> first | exact h.elim | skip
  · cases (show x = _ from ra); cases (show y = _ from rb)
    exact W2.of op_lt ⟨_, _, rfl, rfl, .same (d := .bl _) (by simp only [Rep]) h⟩
  · cases (show x = _ from ra); cases (show y = _ from rb)
    exact W2.of op_lt_str ⟨_, _, rfl, rfl, .same (d := .bl _) (by simp only [Rep, slt]) h⟩
abbrev gtD := intD (fun _ _ => True) fun i j => .bl (decide (j < i))
abbrev leD := intD (fun _ _ => True) fun i j => .bl (decide (i ≤ j))
abbrev geD := intD (fun _ _ => True) fun i j => .bl (decide (j ≤ i))
theorem d2_gt : D2 X (compareOp .Gt) gtD := d2_int0 op_gt fun _ _ _ => by simp only [Rep]
theorem d2_le : D2 X (compareOp .LtE) leD := d2_int0 op_le fun _ _ _ => by simp only [Rep]
theorem d2_ge : D2 X (compareOp .GtE) geD := d2_int0 op_ge fun _ _ _ => by simp only [Rep]
/-- ==, != -/
def cmpOk (a b : D) : Bool := eqOk a && eqOk b && agr a b && decide (dep a ≤ 60)
def eqD (a b : D) (k : D → Prop) : Prop := cmpOk a b = true ∧ k (.bl (eqb a b))
end
end DL
/-! ## DL5 -/
namespace DL
open PySem PySem.Spec PyProof.Rows L2
open PySem.SeqAt (EqIn)
section
variable {X : Cx} {pins : List (Addr × Obj)} {σ : L2.St} {H F : Hp} {s : Shared}
/-! ### ==, != at top level -/
theorem rcIn_D (I : Inv X pins σ H s) (le : Same F H) (a b : D) {x y : V} {v u : Value} {A : Around} (ha : eqOk a = true) (hb : eqOk b = true) (hg : agr a b = true) (ra : RdAt F H a x) (rb : RdAt F H b y) (rx : RelV x v) (ry : RelV y u) (hu : A.units + dep a < cLine)
    (E Q : Value → Shared → Prop) (hq : Q (.bool (eqb a b)) s) : wpAny (model X.prog X.w) A (compareOp .Eq v u) Q E s := by
  by_cases hs : seqD a = true ∧ seqD b = true
  · exact rcAt_D I le a b hs.1 hs.2 ra rb rx ry hu _ _ E Q hq
  · have hu' : A.units < cLine := by omega
    cases a with
    | lst as =>
      cases b with
      | lst bs =>
        obtain ⟨p, vs, rfl, h1, h2⟩ := ra
        obtain ⟨q, us, rfl, h3, h4⟩ := rb
        cases rx; cases ry
        obtain ⟨its, rv, pl, _⟩ := I.list (SqL.of h1)
        obtain ⟨its2, rv2, pl2, _⟩ := I.list (SqL.of h3)
        simp only [eqOk] at ha hb
        simp only [agr] at hg
        by_cases hl : as.length = bs.length
        · have hsz : its.toArray.size = its2.toArray.size := by
            simp only [List.size_toArray, ← rv.length, ← rv2.length, h2.length, h4.length]
            exact hl
          have e1 : (List.range its.toArray.size).all (fun j => eqb (as.getD j .non) (bs.getD j .non)) = eqb (.lst as) (.lst bs) := by
            simp only [List.size_toArray, ← rv.length, h2.length, eqb]
            refine eqbs_all hl fun j a b z1 z2 => ?_
            simp only [List.getD, z1, z2, Option.getD_some]
          rw [← e1] at hq
          refine SeqAt.rcIn_lists pl.isList pl2.isList hsz hu' (fun j j1 j2 => at_items h2 h4 rv rv2 j1 j2 fun a b xv yv uv uw z1 z2 r3 r4 r5 r6 => ?_) hq
          have hd := deps_get z1
          exact eqIn_D I le a b (eqOks_get ha z1) (eqOks_get hb z2) (agrs_get hg z1 z2) (r3.rd le) (r4.rd le) r5 r6 (by
            simp only [dep] at hu
            show A.units + 1 + dep a < cLine
            omega)
        · rw [show eqb (.lst as) (.lst bs) = false by simp only [eqb]; exact eqbs_len hl] at hq
          refine SeqAt.RcAt.lists_lengths pl.isList pl2.isList ?_ hu' _ _ E Q hq
          simp only [List.size_toArray, ← rv.length, ← rv2.length, h2.length, h4.length]
          simpa using hl
      | _ => simp only [agr, Bool.and_eq_true] at hg; exact absurd hg hs
    | tup as =>
      cases b with
      | tup bs =>
        obtain ⟨p, vs, rfl, h1, h2⟩ := ra
        obtain ⟨q, us, rfl, h3, h4⟩ := rb
        cases rx; cases ry
        obtain ⟨its, rv, pl, _⟩ := I.tuple (SqT.of (le _ _ h1))
        obtain ⟨its2, rv2, pl2, _⟩ := I.tuple (SqT.of (le _ _ h3))
        simp only [eqOk] at ha hb
        simp only [agr] at hg
        refine SeqAt.rcIn_tuples pl pl2 hu' (e := fun j => eqb (as.getD j .non) (bs.getD j .non)) (fun j j1 j2 => at_items h2 h4 rv rv2 j1 j2 fun a b xv yv uv uw z1 z2 r3 r4 r5 r6 => ?_) ?_
        · have hd := deps_get z1
          exact eqIn_D I le a b (eqOks_get ha z1) (eqOks_get hb z2) (agrs_get hg z1 z2) (r3.rd le) (r4.rd le) r5 r6 (by
            simp only [dep] at hu
            show A.units + 1 + dep a < cLine
            omega)
        · by_cases hl : as.length = bs.length
          · have hsz : its.toArray.size = its2.toArray.size := by
              simp only [List.size_toArray, ← rv.length, ← rv2.length, h2.length, h4.length]
              exact hl
            have e1 : (List.range its.toArray.size).all (fun j => eqb (as.getD j .non) (bs.getD j .non)) = eqb (.tup as) (.tup bs) := by
              simp only [List.size_toArray, ← rv.length, h2.length, eqb]
              refine eqbs_all hl fun j a b z1 z2 => ?_
              simp only [List.getD, z1, z2, Option.getD_some]
            rw [← hsz, Nat.min_self, e1, beq_self_eq_true, Bool.and_true]
            exact hq
          · have hsz : (its.toArray.size == its2.toArray.size) = false := by
              simp only [List.size_toArray, ← rv.length, ← rv2.length, h2.length, h4.length]
              simpa using hl
            rw [hsz, Bool.and_false]
            rw [show eqb (.tup as) (.tup bs) = false by simp only [eqb]; exact eqbs_len hl] at hq
            exact hq
      | _ => simp only [agr, Bool.and_eq_true] at hg; exact absurd hg hs
    | dk as =>
      cases b with
      | dk bs =>
        obtain ⟨p, vs, rfl, h1, h2⟩ := ra
        obtain ⟨q, us, rfl, h3, h4⟩ := rb
        cases rx; cases ry
        simp only [eqOk, Bool.and_eq_true, decide_eq_true_eq] at ha hb
        simp only [agr] at hg
        obtain ⟨_, ya, va, r1, da⟩ := (show ObjOk X.prog X.w H s.heap p (.dK vs) from h1.ok I.hok)
        obtain ⟨_, yb, vb, r2, db⟩ := (show ObjOk X.prog X.w H s.heap q (.dK us) from h3.ok I.hok)
        refine PySem.W.keq_eqIn (knd := mixKind X.prog X.w) (r := eqbk as bs) ya yb da db hu' (fun _ => ?_) ?_
        · exact hits_D I le as h2 r1 (fun k => by
            rcases h4.find (k := k) with ⟨p', y', z1, z2, z3, z4⟩ | ⟨z1, z2⟩
            · left
              have rr : RelO (some y') (valueAt vb k) := by rw [← z2]; exact r2.val k
              obtain ⟨w', hw, rw'⟩ := rr.some_of
              exact ⟨p', y', w', z1, hw, z3, rw', eqOkk_mem hb.1 z4⟩
            · right
              have rr : RelO none (valueAt vb k) := by rw [← z2]; exact r2.val k
              refine ⟨z1, ?_⟩
              cases hv : valueAt vb k with
              | none => rfl
              | some z => rw [hv] at rr; exact rr.elim) ha.1 hg (by
            simp only [dep] at hu
            show A.units + 1 + depk as < cLine
            omega)
        · have e1 : va.length = as.length := by rw [← r1.length, h2.length]
          have e2 : vb.length = bs.length := by rw [← r2.length, h4.length]
          rw [e1, e2]
          simpa only [eqb] using hq
      | _ => simp [agr, seqD] at hg
    | non => exact absurd (by cases b <;> simpa [agr] using hg) hs
    | bl c => exact absurd (by cases b <;> simpa [agr] using hg) hs
    | int c => exact absurd (by cases b <;> simpa [agr] using hg) hs
    | str c => exact absurd (by cases b <;> simpa [agr] using hg) hs
    | _ => simp [eqOk] at ha
theorem d2_eq (hu : X.A.units + 64 < cLine) : D2 X (compareOp .Eq) eqD := by
  intro F H a b x y k le ra rb h pins s σ v u I rx ry
  obtain ⟨h, q⟩ := h
  simp only [cmpOk, Bool.and_eq_true, decide_eq_true_eq] at h
  obtain ⟨⟨⟨h1, h2⟩, h3⟩, h4⟩ := h
  exact rcIn_D I le a b h1 h2 h3 ra rb rx ry (by omega) _ _ ⟨.bl _, H, I, rfl, .same rep_bl q⟩
/-- dicts of flat values, empty ones -/
def flatK : List (Key × D) → Bool
  | [] => true
  | (_, a) :: as => seqD a && flatK as
def neOk (a b : D) : Bool := (seqD a && seqD b && decide (dep a ≤ 60)) || (match a, b with | .dk as, .dk bs => flatK as && flatK bs && decide (depk as ≤ 60) || (bs.isEmpty) | _, _ => false)
def neD (a b : D) (k : D → Prop) : Prop := neOk a b = true ∧ k (.bl (!eqb a b))
theorem flatK_mem : ∀ {as : List (Key × D)} {p : Key × D}, flatK as = true → p ∈ as → seqD p.2 = true
  | [], _, _, h => by simp at h
  | (k, a) :: as, p, h, hm => by
    simp only [flatK, Bool.and_eq_true] at h
    rcases List.mem_cons.mp hm with rfl | hm
    · exact h.1
    · exact flatK_mem h.2 hm
theorem hits_F (I : Inv X pins σ H s) (le : Same F H) : ∀ (as : List (Key × D)) {A : Around} {bs : List (Key × D)} {vs : List (Key × V)} {va vb : List (Key × Value)}, RepK F as vs → KV vs va →
    (∀ k, (∃ p y w', bs.find? (fun p => decide (p.1 = k)) = some p ∧ valueAt vb k = some w' ∧ Rep F p.2 y ∧ RelV y w' ∧ seqD p.2 = true) ∨ (bs.find? (fun p => decide (p.1 = k)) = none ∧ valueAt vb k = none)) →
    flatK as = true → A.units + depk as < cLine → PySem.W.KeqHits A s vb va (eqbk as bs)
  | [], A, bs, vs, va, vb, h2, r1, _, _, _ => by
    simp only [RepK] at h2; subst h2
    cases r1
    simp only [eqbk]
    exact .nil
  | (k, a) :: as, A, bs, vs, va, vb, h2, r1, hb, ha, hu => by
    simp only [RepK] at h2
    obtain ⟨x, r, rfl, h3, h4⟩ := h2
    cases r1 with
    | @cons _ q _ qs r5 r6 =>
      obtain ⟨kq, vq⟩ := q
      obtain ⟨e1, rx⟩ := r5
      simp only at e1 rx
      subst e1
      simp only [flatK, Bool.and_eq_true] at ha
      simp only [depk] at hu
      have ih := hits_F I le as (A := A) (bs := bs) (vb := vb) h4 r6 hb ha.2 (by omega)
      simp only [eqbk]
      rcases hb k with ⟨p, y, w', z1, z2, z3, z4, z5⟩ | ⟨z1, z2⟩
      · rw [z1]
        exact .hit z2 (eqAt_D I le a p.2 ha.1 z5 (h3.rd le) (z3.rd le) rx z4 (by omega)) ih
      · rw [z1]
        exact .miss z2
theorem d2_ne (hu : X.A.units + 64 < cLine) : D2 X (compareOp .NotEq) neD := by
  intro F H a b x y k le ra rb h pins s σ v u I rx ry
  obtain ⟨h, q⟩ := h
  simp only [neOk, Bool.or_eq_true, Bool.and_eq_true, decide_eq_true_eq] at h
  rcases h with ⟨⟨h1, h2⟩, h3⟩ | h
  · exact rcneAt_D I le a b h1 h2 ra rb rx ry (by omega) _ _ _ _ ⟨.bl _, H, I, rfl, .same rep_bl q⟩
  · cases a <;> cases b <;> simp only [Bool.false_eq_true] at h
    rename_i as bs
    obtain ⟨p, vs, rfl, h1, h2⟩ := ra
    obtain ⟨r, us, rfl, h3, h4⟩ := rb
    cases rx; cases ry
    obtain ⟨_, ya, va, r1, da⟩ := (show ObjOk X.prog X.w H s.heap p (.dK vs) from h1.ok I.hok)
    obtain ⟨_, yb, vb, r2, db⟩ := (show ObjOk X.prog X.w H s.heap r (.dK us) from h3.ok I.hok)
    have e1 : va.length = as.length := by rw [← r1.length, h2.length]
    have e2 : vb.length = bs.length := by rw [← r2.length, h4.length]
    refine PySem.W.keq_ne (knd := mixKind X.prog X.w) (r := eqbk as bs) ya yb da db (by omega) (fun hl => ?_) ?_
    · rcases (Bool.or_eq_true _ _).mp h with h | h
      · simp only [Bool.and_eq_true, decide_eq_true_eq] at h
        exact hits_F I le as h2 r1 (fun k => by
          rcases h4.find (k := k) with ⟨p', y', z1, z2, z3, z4⟩ | ⟨z1, z2⟩
          · left
            have rr : RelO (some y') (valueAt vb k) := by rw [← z2]; exact r2.val k
            obtain ⟨w', hw, rw'⟩ := rr.some_of
            exact ⟨p', y', w', z1, hw, z3, rw', flatK_mem h.1.2 z4⟩
          · right
            have rr : RelO none (valueAt vb k) := by rw [← z2]; exact r2.val k
            refine ⟨z1, ?_⟩
            cases hv : valueAt vb k with
            | none => rfl
            | some z => rw [hv] at rr; exact rr.elim) h.1.1 (by
          show X.A.units + 1 + depk as < cLine
          omega)
      · have : bs = [] := by simpa using h
        subst this
        rw [e1, e2] at hl
        have : as = [] := List.eq_nil_of_length_eq_zero (by simpa using hl)
        subst this
        simp only [RepK] at h2
        subst h2
        cases r1
        exact .nil
    · rw [e1, e2]
      simp only [eqb] at q
      exact ⟨.bl _, H, I, rfl, .same rep_bl q⟩

/-! ### in, not in -/
def hasK (kvs : List (Key × D)) (k : Key) : Bool := (kvs.find? fun p => decide (p.1 = k)).isSome
def getK (kvs : List (Key × D)) (k : Key) : Option D := (kvs.find? fun p => decide (p.1 = k)).map (·.2)
def inD : D → D → (Bool → Prop) → Prop
  | x, .lst ds, k => (seqD x && seqDs ds && decide (deps ds ≤ 60)) = true ∧ k (ds.any fun d => eqb d x)
  | x, .tup ds, k => (seqD x && seqDs ds && decide (deps ds ≤ 60)) = true ∧ k (ds.any fun d => eqb d x)
  | .str c, .dk kvs, k => k (hasK kvs (.inr c))
  | .int c, .dk kvs, k => k (hasK kvs (.inl c))
  | .str a, .str z, k => ∃ c, a = ⟨#[c]⟩ ∧ k (decide (c ∈ z.cps.toList))
  | _, _, _ => False
theorem RepK.get {F : Hp} {bs : List (Key × D)} {ks : List (Key × V)} (h : RepK F bs ks) (k : Key) : (getK bs k = none ∧ valV ks k = none) ∨ ∃ d y, getK bs k = some d ∧ valV ks k = some y ∧ Rep F d y := by
  rcases h.find (k := k) with ⟨p, y, h1, h2, h3, _⟩ | ⟨h1, h2⟩
  · exact .inr ⟨p.2, y, by simp [getK, h1], h2, h3⟩
  · exact .inl ⟨by simp [getK, h1], h2⟩
theorem RepK.has {F : Hp} {bs : List (Key × D)} {ks : List (Key × V)} (h : RepK F bs ks) (k : Key) : (valV ks k).isSome = hasK bs k := by
  rcases h.find (k := k) with ⟨p, y, h1, h2, h3, _⟩ | ⟨h1, h2⟩
  · simp [hasK, h1, h2]
  · simp [hasK, h1, h2]
open Classical in
theorem in_eq (I : Inv X pins σ H s) (le : Same F H) {dx : D} {x : V} {u : Value} (hx : seqD dx = true) (rx : RdAt F H dx x) (ru : RelV x u) {ds : List D} {vs : List V} {its : List Value} (hds : seqDs ds = true) (h2 : Reps F ds vs) (rv : Vals vs its) (hu : X.A.units + 64 < cLine) (hd : deps ds ≤ 60) :
    ∃ e : Value → Bool, (∀ y, y ∈ its.toArray → SeqAt.EqAt X.A.in1 s y u (e y)) ∧ its.toArray.any e = ds.any fun d => eqb d dx := by
  refine ⟨fun y => decide (∃ d v, Rep F d v ∧ RelV v y ∧ seqD d = true ∧ eqb d dx = true), ?_, ?_⟩
  · intro y hy
    have hy' : y ∈ its := by simpa using hy
    obtain ⟨j, hj, rfl⟩ := List.getElem_of_mem hy'
    have jv : j < vs.length := by rw [rv.length]; exact hj
    obtain ⟨w, ew, rw'⟩ := rv.get (i := j) (x := vs[j]) (by simp [jv])
    rw [List.getElem?_eq_getElem hj] at ew
    cases ew
    obtain ⟨d, ed, rd⟩ := h2.of_get (i := j) (v := vs[j]) (by simp [jv])
    have sd := seqDs_get hds ed
    have key : decide (∃ d v, Rep F d v ∧ RelV v its[j] ∧ seqD d = true ∧ eqb d dx = true) = eqb d dx := by
      cases e : eqb d dx with
      | true => exact decide_eq_true ⟨d, _, rd, rw', sd, e⟩
      | false =>
        refine decide_eq_false ?_
        rintro ⟨d', v', r', rl, sd', e'⟩
        have := RelV.inj rl rw'
        subst this
        have := rep_inj d d' (eqOk_of_seq _ sd) (eqOk_of_seq _ sd') rd r'
        subst this
        rw [e] at e'; cases e'
    have hdd := deps_get ed
    have goal : SeqAt.EqAt X.A.in1 s its[j] u (eqb d dx) := eqAt_D I le d dx sd hx (rd.rd le) rx rw' ru (by show X.A.units + 1 + dep d < cLine; omega)
    rw [← key] at goal
    exact goal
  · rw [Bool.eq_iff_iff]
    simp only [Array.any_eq_true', List.any_eq_true, List.mem_toArray, decide_eq_true_eq]
    constructor
    · rintro ⟨y, hy, d', v', r', rl, sd', e'⟩
      obtain ⟨j, hj, rfl⟩ := List.getElem_of_mem hy
      have jv : j < vs.length := by rw [rv.length]; exact hj
      obtain ⟨w, ew, rw'⟩ := rv.get (i := j) (x := vs[j]) (by simp [jv])
      rw [List.getElem?_eq_getElem hj] at ew
      cases ew
      obtain ⟨d, ed, rd⟩ := h2.of_get (i := j) (v := vs[j]) (by simp [jv])
      have := RelV.inj rl rw'
      subst this
      have := rep_inj d d' (eqOk_of_seq _ (seqDs_get hds ed)) (eqOk_of_seq _ sd') rd r'
      subst this
      exact ⟨d, List.mem_of_getElem? ed, e'⟩
    · rintro ⟨d, hd', e⟩
      obtain ⟨j, hj, rfl⟩ := List.getElem_of_mem hd'
      obtain ⟨v, ev, rd⟩ := h2.get (i := j) (d := ds[j]) (by simp [hj])
      obtain ⟨w, ew, rw'⟩ := rv.get ev
      exact ⟨w, List.mem_of_getElem? ew, ds[j], v, rd, rw', seqDs_get hds (j := j) (by simp [hj]), e⟩
def inV (a b : D) (k : D → Prop) : Prop := inD a b fun c => k (.bl c)
def ninV (a b : D) (k : D → Prop) : Prop := inD a b fun c => k (.bl (!c))
theorem d2_in (hu : X.A.units + 64 < cLine) : D2 X (compareOp .In) inV := by
  intro F H a b x y k le ra rb h
  cases b with
  | lst ds =>
    obtain ⟨h1, q⟩ := h
    simp only [Bool.and_eq_true, decide_eq_true_eq] at h1
    obtain ⟨p, vs, rfl, h3, h4⟩ := rb
    intro pins s σ v u I rx ry
    cases ry
    obtain ⟨its, rv, pl, _⟩ := I.list (SqL.of h3)
    obtain ⟨e, he, ee⟩ := in_eq I le h1.1.1 ra rx h1.1.2 h4 rv hu h1.2
    exact SeqAt.in_listAt e pl.isList he (by rw [ee]; exact ⟨.bl _, H, I, rfl, .same rep_bl q⟩)
  | tup ds =>
    obtain ⟨h1, q⟩ := h
    simp only [Bool.and_eq_true, decide_eq_true_eq] at h1
    obtain ⟨p, vs, rfl, h3, h4⟩ := rb
    intro pins s σ v u I rx ry
    cases ry
    obtain ⟨its, rv, pl, _⟩ := I.tuple (SqT.of (le _ _ h3))
    obtain ⟨e, he, ee⟩ := in_eq I le h1.1.1 ra rx h1.1.2 h4 rv hu h1.2
    exact SeqAt.in_tupleAt e pl he (by rw [ee]; exact ⟨.bl _, H, I, rfl, .same rep_bl q⟩)
  | dk kvs =>
    obtain ⟨p, vs, rfl, h3, h4⟩ := rb
    cases a with
    | str c =>
      cases (show x = _ from ra)
      intro pins s σ v u I rx ry
      cases ry
      refine d_in (o := valV vs (.inr c)) (y := kV (.inr c)) (by omega) I (.inl ⟨vs, .inr c, h3, rfl, rfl⟩) rx fun s' I' => ⟨.bl _, H, I', rfl, .same rep_bl ?_⟩
      rw [h4.has]; exact h
    | int c =>
      cases (show x = _ from ra)
      intro pins s σ v u I rx ry
      cases ry
      refine d_in (o := valV vs (.inl c)) (y := kV (.inl c)) (by omega) I (.inl ⟨vs, .inl c, h3, rfl, rfl⟩) rx fun s' I' => ⟨.bl _, H, I', rfl, .same rep_bl ?_⟩
      rw [h4.has]; exact h
    | _ => exact h.elim
  | str z =>
    cases a with
    | str c =>
      cases (show x = _ from ra); cases (show y = _ from rb)
      obtain ⟨c, rfl, q⟩ := h
      exact W2.of op_in_sign ⟨c, z, rfl, rfl, .same rep_bl q⟩
    | _ => exact h.elim
  | _ => cases a <;> exact h.elim
theorem d2_nin (hu : X.A.units + 64 < cLine) : D2 X (compareOp .NotIn) ninV := by
  intro F H a b x y k le ra rb h
  cases b with
  | lst ds =>
    obtain ⟨h1, q⟩ := h
    simp only [Bool.and_eq_true, decide_eq_true_eq] at h1
    obtain ⟨p, vs, rfl, h3, h4⟩ := rb
    intro pins s σ v u I rx ry
    cases ry
    obtain ⟨its, rv, pl, _⟩ := I.list (SqL.of h3)
    obtain ⟨e, he, ee⟩ := in_eq I le h1.1.1 ra rx h1.1.2 h4 rv hu h1.2
    exact SeqAt.notIn_listAt e pl.isList he (by rw [ee]; exact ⟨.bl _, H, I, rfl, .same rep_bl q⟩)
  | tup ds =>
    obtain ⟨h1, q⟩ := h
    simp only [Bool.and_eq_true, decide_eq_true_eq] at h1
    obtain ⟨p, vs, rfl, h3, h4⟩ := rb
    intro pins s σ v u I rx ry
    cases ry
    obtain ⟨its, rv, pl, _⟩ := I.tuple (SqT.of (le _ _ h3))
    obtain ⟨e, he, ee⟩ := in_eq I le h1.1.1 ra rx h1.1.2 h4 rv hu h1.2
    exact SeqAt.notIn_tupleAt e pl he (by rw [ee]; exact ⟨.bl _, H, I, rfl, .same rep_bl q⟩)
  | dk kvs =>
    obtain ⟨p, vs, rfl, h3, h4⟩ := rb
    cases a with
    | str c =>
      cases (show x = _ from ra)
      intro pins s σ v u I rx ry
      cases ry
      refine d_notIn (o := valV vs (.inr c)) (y := kV (.inr c)) (by omega) I (.inl ⟨vs, .inr c, h3, rfl, rfl⟩) rx fun s' I' => ⟨.bl _, H, I', rfl, .same rep_bl ?_⟩
      rw [h4.has]; exact h
    | int c =>
      cases (show x = _ from ra)
      intro pins s σ v u I rx ry
      cases ry
      refine d_notIn (o := valV vs (.inl c)) (y := kV (.inl c)) (by omega) I (.inl ⟨vs, .inl c, h3, rfl, rfl⟩) rx fun s' I' => ⟨.bl _, H, I', rfl, .same rep_bl ?_⟩
      rw [h4.has]; exact h
    | _ => exact h.elim
  | str z =>
    cases a with
    | str c =>
      cases (show x = _ from ra); cases (show y = _ from rb)
      obtain ⟨c, rfl, q⟩ := h
      exact W2.of op_notIn_sign ⟨c, z, rfl, rfl, .same rep_bl q⟩
    | _ => exact h.elim
  | _ => cases a <;> exact h.elim
end
end DL
/-! ## DL6 -/
namespace DL
open PySem PySem.Spec PyProof.Rows L2
/-! ### is, items, slices -/
def isD : D → D → (Bool → Prop) → Prop
  | .non, .non, k => k true
  | .bl _, .non, k => k false
  | .int _, .non, k => k false
  | .str _, .non, k => k false
  | .lst _, .non, k => k false
  | .tup _, .non, k => k false
  | .dk _, .non, k => k false
  | .dt _, .non, k => k false
  | .obj _ _, .non, k => k false
  | .bl a, .bl b, k => k (decide (a = b))
  | _, _, _ => False
def isV (a b : D) (k : D → Prop) : Prop := isD a b fun c => k (.bl c)
def nisV (a b : D) (k : D → Prop) : Prop := isD a b fun c => k (.bl (!c))
section
variable {X : Cx}
theorem isD_non {F H : Hp} {a : D} {x : V} {k : Bool → Prop} (ra : RdAt F H a x) (h : isD a .non k) : k (decide (x = .non)) := by
  cases a with
  | non => cases (show x = _ from ra); simpa [isD] using h
  | bl c => cases (show x = _ from ra); simpa [isD] using h
  | int c => cases (show x = _ from ra); simpa [isD] using h
  | str c => cases (show x = _ from ra); simpa [isD] using h
  | lst c => obtain ⟨p, vs, rfl, _⟩ := ra; simpa [isD] using h
  | tup c => obtain ⟨p, vs, rfl, _⟩ := ra; simpa [isD] using h
  | dk c => obtain ⟨p, vs, rfl, _⟩ := ra; simpa [isD] using h
  | dt c => obtain ⟨p, vs, rfl, _⟩ := ra; simpa [isD] using h
  | obj C c => obtain ⟨p, dx, vs, rfl, _⟩ := ra; simpa [isD] using h
  | _ => exact h.elim
theorem d2_is : D2 X (compareOp .Is) isV := by
  intro F H a b x y k le ra rb h
  cases b with
  | non => cases (show y = _ from rb); exact W2.of op_isN ⟨rfl, .same rep_bl (isD_non (k := fun c => k (.bl c)) ra h)⟩
  | bl c =>
    cases a with
    | bl d => cases (show x = _ from ra); cases (show y = _ from rb); exact W2.of op_is_bl ⟨d, c, rfl, rfl, .same rep_bl h⟩
    | _ => exact h.elim
  | _ => cases a <;> exact h.elim
theorem d2_nis : D2 X (compareOp .IsNot) nisV := by
  intro F H a b x y k le ra rb h
  cases b with
  | non => cases (show y = _ from rb); exact W2.of op_notN ⟨rfl, .same rep_bl (isD_non (k := fun c => k (.bl (!c))) ra h)⟩
  | bl c =>
    cases a with
    | bl d => cases (show x = _ from ra); cases (show y = _ from rb); exact W2.of op_isnot_bl ⟨d, c, rfl, rfl, .same rep_bl h⟩
    | _ => exact h.elim
  | _ => cases a <;> exact h.elim
end
def onS {α : Type} : Option α → (α → Prop) → Prop
  | some a, k => k a
  | none, _ => False
theorem onS_some {α : Type} {o : Option α} {k : α → Prop} (h : onS o k) : ∃ a, o = some a ∧ k a := by
  cases o with
  | none => exact h.elim
  | some a => exact ⟨a, rfl, h⟩
def ixD : D → D → (D → Prop) → Prop
  | .lst ds, .int i, k => onS (atI ds i) k
  | .tup ds, .int i, k => onS (atI ds i) k
  | .str z, .int i, k => z.length ≤ lim ∧ onS (atI z.cps.toList i) fun c => k (.str ⟨#[c]⟩)
  | .dk kvs, .str c, k => onS (getK kvs (.inr c)) k
  | .dk kvs, .int c, k => onS (getK kvs (.inl c)) k
  | _, _, _ => False
section
variable {X : Cx} {F H : Hp}
theorem ix_dict (hu : X.A.units + 1 < cLine) : IxR X (fun x y H Q => ∃ a v, x = .ref a ∧ DGet H a y (some v) ∧ Q v H) := by
  intro value slice pins s σ H x y v u Q I rx ry h hs
  obtain ⟨a, w, rfl, g, q⟩ := h
  cases rx
  exact tail_any (dict_typeIs I g) PySem.F.slot_dict_getitem.lookup (d_getItem hu I g ry fun w' s3 I3 rw' => ⟨w, H, I3, rw', q⟩) hs
theorem Reps.atI {ds : List D} {vs : List V} {i : Int} {d : D} (h : Reps F ds vs) (e : L2.atI ds i = some d) : ∃ v, L2.atI vs i = some v ∧ Rep F d v := by
  unfold L2.atI at e ⊢
  rw [h.length]
  cases hj : ixN ds.length i with
  | none => rw [hj] at e; simp at e
  | some j =>
    rw [hj] at e
    simp only [Option.bind_some] at e ⊢
    exact h.get e
/-- a subscript by values -/
def DIx (X : Cx) (f : D → D → (D → Prop) → Prop) : Prop := ∀ F H a b x y k, Same F H → RdAt F H a x → RdAt F H b y → f a b k → WIx X x y H (Qc F H k)
theorem di_ix (hu : X.A.units + 1 < cLine) : DIx X ixD := by
  intro F H a b x y k le ra rb h
  cases a with
  | lst ds =>
    cases b with
    | int i =>
      cases (show y = _ from rb)
      obtain ⟨d, e, q⟩ := onS_some h
      obtain ⟨p, vs, rfl, h1, h2⟩ := ra
      obtain ⟨v, e2, r⟩ := h2.atI e
      exact WIx.of ix_list ⟨p, vs, i, v, rfl, rfl, SqL.of h1, e2, .same r q⟩
    | _ => exact h.elim
  | tup ds =>
    cases b with
    | int i =>
      cases (show y = _ from rb)
      obtain ⟨d, e, q⟩ := onS_some h
      obtain ⟨p, vs, rfl, h1, h2⟩ := ra
      obtain ⟨v, e2, r⟩ := h2.atI e
      exact WIx.of ix_tup ⟨p, vs, i, v, rfl, rfl, SqT.of (le _ _ h1), e2, .same r q⟩
    | _ => exact h.elim
  | str z =>
    cases b with
    | int i =>
      cases (show x = _ from ra); cases (show y = _ from rb)
      obtain ⟨hz, h⟩ := h
      obtain ⟨c, e, q⟩ := onS_some h
      exact WIx.of ix_str ⟨z, i, c, rfl, rfl, by rw [lim_eq]; exact hz, e, .same rep_str q⟩
    | _ => exact h.elim
  | dk kvs =>
    obtain ⟨p, vs, rfl, h1, h2⟩ := ra
    cases b with
    | str c =>
      cases (show y = _ from rb)
      obtain ⟨d, e, q⟩ := onS_some h
      rcases h2.get (.inr c) with ⟨e1, _⟩ | ⟨d', v, e1, e2, r⟩
      · rw [e1] at e; cases e
      · rw [e1] at e; cases e
        exact WIx.of (ix_dict hu) ⟨p, v, rfl, .inl ⟨vs, .inr c, h1, rfl, e2.symm⟩, .same r q⟩
    | int c =>
      cases (show y = _ from rb)
      obtain ⟨d, e, q⟩ := onS_some h
      rcases h2.get (.inl c) with ⟨e1, _⟩ | ⟨d', v, e1, e2, r⟩
      · rw [e1] at e; cases e
      · rw [e1] at e; cases e
        exact WIx.of (ix_dict hu) ⟨p, v, rfl, .inl ⟨vs, .inl c, h1, rfl, e2.symm⟩, .same r q⟩
    | _ => exact h.elim
  | _ => cases b <;> exact h.elim
variable {pu : Option Addr} {a b e : Expr} {ta tb te : RE} {pos : Pos}
theorem de_ix {f : D → D → (D → Prop) → Prop} (ho : DIx X f) (ha : DE X pu a ta) (hb : DE X pu b tb) (hs : PlainIx b) : DE X pu (.Subscript a b pos) (rBin f ta tb) := by
  intro as F μ H σ ρ k st rh h
  refine WE.fin (WE.of (pe_ix WIx.op WE.pe WE.pe hs) (seq2 ha hb st rh h fun as' F' H' μ' dx dy x y o s r1 r2 q => ?_))
  exact (ho F' H' _ _ x y _ s.le (s.rd r1) (s.rd r2) q).mono fun v H2 q2 => .op o s q2

/-! slices -/
def cutL {α : Type} (xs : List α) (lo hi : Option Int) : List α := (xs.drop (HT.sIx xs.length 0 lo)).take (HT.sIx xs.length xs.length hi - HT.sIx xs.length 0 lo)
def slD : D → Option Int → Option Int → (D → Prop) → Prop
  | .lst ds, lo, hi, k => k (.lst (cutL ds lo hi))
  | .tup ds, lo, hi, k => k (.tup (cutL ds lo hi))
  | .str z, lo, hi, k => z.length ≤ lim ∧ k (.str (cutS z lo hi))
  | _, _, _, _ => False
theorem Reps.cut {ds : List D} {vs : List V} (h : Reps F ds vs) (lo hi : Option Int) : Reps F (cutL ds lo hi) (cutV vs lo hi) := by
  unfold cutL cutV
  rw [h.length]
  exact (h.drop _).take _
/-- a part of a slice -/
abbrev RO := Rho → Mu → (Option Int → Mu → Prop) → Prop
def rNo : RO := fun _ μ k => k none μ
def isI : D → (Int → Prop) → Prop
  | .int i, k => k i
  | _, _ => False
def rPt (t : RE) : RO := fun ρ μ k => t ρ μ fun d μ1 => isI (μ1.rd d) fun i => k (some i) μ1
theorem isI_some {d : D} {k : Int → Prop} (h : isI d k) : ∃ b, d = .int b ∧ k b := by
  cases d with
  | int b => exact ⟨b, rfl, h⟩
  | _ => exact h.elim
def Qo (pu : Option Addr) (as : List Addr) (F H : Hp) (k : Option Int → Mu → Prop) : Option Int → Hp → Prop := fun i H' => ∃ as' F' μ', Out pu as F H as' F' H' ∧ Sta pu as' F' μ' H' ∧ k i μ'
def WO (X : Cx) (e : Option Expr) : TO := fun σ H Q => ∀ (pins : List (Addr × Obj)) (s : Shared), Inv X pins σ H s → wpAny (model X.prog X.w) X.A (evalPart e X.env) (fun u s' => ∃ o H', Inv X pins σ H' s' ∧ IsPart u o ∧ Q o H') X.xe s
theorem WO.po {e : Option Expr} : PO X e (WO X e) := ⟨fun pins s _ _ _ I h => h pins s I⟩
theorem WO.of {e : Option Expr} {t : TO} {σ : L2.St} {Q : Option Int → Hp → Prop} (h : PO X e t) (q : t σ H Q) : WO X e σ H Q := fun pins s I => h.run pins s σ H Q I q
theorem WO.mono {e : Option Expr} {σ : L2.St} {Q Q' : Option Int → Hp → Prop} (h : WO X e σ H Q) (k : ∀ v H', Q v H' → Q' v H') : WO X e σ H Q' := fun pins s I => thn (h pins s I) fun _ _ ⟨v, H', I', r, q⟩ => ⟨v, H', I', r, k v H' q⟩
def DO (X : Cx) (pu : Option Addr) (e : Option Expr) (t : RO) : Prop := ∀ as F μ H σ ρ k, Sta pu as F μ H → RhoOk pu as F ρ σ → t ρ μ k → WO X e σ H (Qo pu as F H k)
theorem do_none : DO X pu none rNo := fun as F μ H σ ρ k st rh h => WO.of po_none ⟨as, F, μ, .refl, st, h⟩
theorem do_some (he : DE X pu e te) : DO X pu (some e) (rPt te) := by
  intro as F μ H σ ρ k st rh h
  refine WO.of (po_some WE.pe) ((he as F μ H σ ρ _ st rh h).mono fun v H1 ⟨as1, F1, μ1, d, o, s, r, q⟩ => ?_)
  obtain ⟨i, e, q⟩ := isI_some q
  have := s.rd r
  rw [e] at this
  exact ⟨i, this, as1, F1, μ1, o, s, q⟩
def rSl (te : RE) (tl th : RO) : RE := fun ρ μ k => te ρ μ fun x μ1 => tl ρ μ1 fun lo μ2 => th ρ μ2 fun hi μ3 => slD (μ3.rd x) lo hi fun d => k (.c d) μ3
def WSl (X : Cx) : V → Option Int → Option Int → Hp → VK → Prop := fun x lo hi H Q => ∀ (pins : List (Addr × Obj)) (s : Shared) (σ : L2.St) (v vl vu : Value) (sl : Addr), Inv X pins σ H s → RelV x v → s.heap.IsSliceOf sl vl vu .none → IsPart vl lo → IsPart vu hi →
    ∃ T id, typeLookup (.type T) "__getitem__" = pure (some (.builtin id)) ∧ s.TypeIs v T ∧ wpAny (model X.prog X.w) X.A (getItem v (.ref sl)) (EP X pins σ Q) X.xe s
theorem WSl.sl : SlR X (WSl X) := fun pins s σ H x v vl vu lo hi sl Q I rx hs pl pu h => h pins s σ v vl vu sl I rx hs pl pu
theorem WSl.of {r : V → Option Int → Option Int → Hp → VK → Prop} {x : V} {lo hi : Option Int} {Q : VK} (h : SlR X r) (q : r x lo hi H Q) : WSl X x lo hi H Q := fun pins s σ v vl vu sl I rx hs pl pu => h pins s σ H x v vl vu lo hi sl Q I rx hs pl pu q
theorem WSl.mono {x : V} {lo hi : Option Int} {Q Q' : VK} (h : WSl X x lo hi H Q) (k : ∀ v H', Q v H' → Q' v H') : WSl X x lo hi H Q' := fun pins s σ v vl vu sl I rx hs pl pu => by
  obtain ⟨T, id, h1, h2, h3⟩ := h pins s σ v vl vu sl I rx hs pl pu
  exact ⟨T, id, h1, h2, thn h3 fun _ _ ⟨v, H', I', r, q⟩ => ⟨v, H', I', r, k v H' q⟩⟩
theorem dsl {d : D} {x : V} {lo hi : Option Int} {k : D → Prop} (le : Same F H) (ra : RdAt F H d x) (h : slD d lo hi k) : WSl X x lo hi H (Qc F H k) := by
  cases d with
  | lst ds =>
    obtain ⟨p, vs, rfl, h1, h2⟩ := ra
    exact WSl.of sl_list ⟨p, vs, rfl, SqL.of h1, fun q hq => .lst le hq (h2.cut lo hi) h⟩
  | tup ds =>
    obtain ⟨p, vs, rfl, h1, h2⟩ := ra
    refine WSl.of sl_tupA ⟨p, vs, rfl, SqT.of (le _ _ h1), fun hw => ?_, fun _ q hq => .tup le hq (h2.cut lo hi) h⟩
    have e : cutL ds lo hi = ds := by
      unfold cutL
      rw [← h2.length, hw.1, hw.2]
      simp [h2.length]
    have h' : k (.tup ds) := by
      have h0 : k (.tup (cutL ds lo hi)) := h
      rw [e] at h0
      exact h0
    exact .same (d := .tup ds) (by simp only [Rep]; exact ⟨p, vs, rfl, h1, h2⟩) h'
  | str z =>
    cases (show x = _ from ra)
    exact WSl.of sl_str ⟨z, rfl, by rw [lim_eq]; exact h.1, .same rep_str h.2⟩
  | _ => exact h.elim
theorem de_slice {lo hi : Option Expr} {tl th : RO} {p2 : Pos} (he : DE X pu e te) (hl : DO X pu lo tl) (hh : DO X pu hi th) : DE X pu (.Subscript e (.Slice lo hi none p2) pos) (rSl te tl th) := by
  intro as F μ H σ ρ k st rh h
  refine WE.fin (WE.of (pe_slice WSl.sl WE.pe WO.po WO.po) ((he as F μ H σ ρ _ st rh h).mono fun x H1 ⟨as1, F1, μ1, d, o1, s1, r1, q1⟩ => ?_))
  refine (hl as1 F1 μ1 H1 σ ρ _ s1 (rh.mono o1.ge) q1).mono fun l H2 ⟨as2, F2, μ2, o2, s2, q2⟩ => ?_
  refine (hh as2 F2 μ2 H2 σ ρ _ s2 ((rh.mono o1.ge).mono o2.ge) q2).mono fun u H3 ⟨as3, F3, μ3, o3, s3, q3⟩ => ?_
  exact (dsl s3.le (s3.rd ((r1.mono o2.ge).mono o3.ge)) q3).mono fun v H4 q4 => .op ((o1.trans o2).trans o3) s3 q4
/-- xs[::-1] -/
def lstD : D → (List D → Prop) → Prop
  | .lst ds, k => k ds
  | _, _ => False
theorem lstD_some {d : D} {k : List D → Prop} (h : lstD d k) : ∃ b, d = .lst b ∧ k b := by
  cases d with
  | lst b => exact ⟨b, rfl, h⟩
  | _ => exact h.elim
def rRev (te : RE) : RE := fun ρ μ k => te ρ μ fun d μ1 => lstD (μ1.rd d) fun ds => k (.c (.lst ds.reverse)) μ1
theorem de_rev {k : Nat} {p1 p2 p3 : Pos} (he : DE X pu e te) : DE X pu (.Subscript e (.Slice none none (some (.UnaryOp .USub (.Constant (.int 1) k p1) p2)) p3) pos) (rRev te) := by
  intro as F μ H σ ρ k st rh h
  refine WE.fin (WE.of (pe_revL WE.pe) ((he as F μ H σ ρ _ st rh h).mono fun x H1 ⟨as1, F1, μ1, d, o1, s1, r1, q1⟩ => ?_))
  obtain ⟨ds, e, q⟩ := lstD_some q1
  have r := s1.rd r1
  rw [e] at r
  obtain ⟨p, vs, rfl, h1, h2⟩ := r
  exact ⟨p, vs, rfl, SqL.of h1, fun q' hq => .op o1 s1 (.lst s1.le hq h2.rev q)⟩
/-- -e -/
def rNeg (te : RE) : RE := fun ρ μ k => te ρ μ fun d μ1 => isI (μ1.rd d) fun i => k (.c (.int (-i))) μ1
theorem de_neg (he : DE X pu e te) : DE X pu (.UnaryOp .USub e pos) (rNeg te) := by
  intro as F μ H σ ρ k st rh h
  refine WE.fin (WE.of (pe_un un_neg WE.pe) ((he as F μ H σ ρ _ st rh h).mono fun x H1 ⟨as1, F1, μ1, d, o1, s1, r1, q1⟩ => ?_))
  obtain ⟨i, e, q⟩ := isI_some q1
  have r := s1.rd r1
  rw [e] at r
  exact ⟨i, r, .same o1 s1 (d := .c (.int (-i))) (rep_int (F := F1)) q⟩

/-! ### argument lists, displays -/
def rNil : RA := fun _ μ k => k [] μ
def rCons (ta : RE) (tr : RA) : RA := fun ρ μ k => ta ρ μ fun x μ1 => tr ρ μ1 fun xs μ2 => k (x :: xs) μ2
variable {es : List Expr} {tr : RA}
theorem da_nil : DA X pu [] rNil := fun as F μ H σ ρ k st rh h => WA.of pa_nil (show Ql pu as F H k [] H from ⟨as, F, μ, [], .refl, st, .nil, h⟩)
theorem da_cons (ha : DE X pu a ta) (hr : DA X pu es tr) (hs : starEach (a :: es) X.env = (false, eval a X.env) :: starEach es X.env := by rfl) : DA X pu (a :: es) (rCons ta tr) := by
  intro as F μ H σ ρ k st rh h
  refine WA.of (pa_cons WE.pe WA.pa hs) ((ha as F μ H σ ρ _ st rh h).mono fun x H1 ⟨as1, F1, μ1, d, o1, s1, r1, q1⟩ => ?_)
  exact (hr as1 F1 μ1 H1 σ ρ _ s1 (rh.mono o1.ge) q1).mono fun xs H2 ⟨as2, F2, μ2, ds, o2, s2, r2, q2⟩ => ⟨as2, F2, μ2, d :: ds, o1.trans o2, s2, .cons (r1.mono o2.ge) r2, q2⟩
/-- all are plain data -/
def colds : List S → (List D → Prop) → Prop
  | [], k => k []
  | .c d :: r, k => colds r fun ds => k (d :: ds)
  | _ :: _, _ => False
theorem colds_some : ∀ {ss : List S} {k : List D → Prop}, colds ss k → ∃ ds, ss = ds.map S.c ∧ k ds
  | [], _, h => ⟨[], rfl, h⟩
  | .c d :: r, k, h => by
    obtain ⟨ds, e, q⟩ := colds_some (ss := r) h
    exact ⟨d :: ds, by rw [e]; rfl, q⟩
  | .hot _ :: _, _, h => h.elim
  | .pur :: _, _, h => h.elim
theorem RepSs.length {as : List Addr} {ds : List S} {vs : List V} (h : RepSs pu as F ds vs) : vs.length = ds.length := by
  induction h with
  | nil => rfl
  | cons _ _ ih => simp [ih]
def rTup (tr : RA) : RE := fun ρ μ k => tr ρ μ fun ss μ1 => ss.length ≤ lim ∧ colds ss fun ds => k (.c (.tup ds)) μ1
def rLst (tr : RA) : RE := fun ρ μ k => tr ρ μ fun ss μ1 => ss.length ≤ lim ∧ colds ss fun ds => k (.c (.lst ds)) μ1
theorem de_tup {x1} (h : DA X pu es tr) : DE X pu (.Tuple es x1 pos) (rTup tr) := by
  intro as F μ H σ ρ k st rh q
  refine WE.fin (WE.of (pe_tup WA.pa) ((h as F μ H σ ρ _ st rh q).mono fun vs H1 ⟨as1, F1, μ1, ss, o1, s1, r1, hl, q1⟩ => ?_))
  obtain ⟨ds, rfl, q2⟩ := colds_some q1
  exact ⟨by rw [lim_eq, r1.length]; exact hl, fun p hp => .op o1 s1 (.tup s1.le hp r1.cold q2)⟩
theorem de_lst (h : DA X pu es tr) : DE X pu (.List es pos) (rLst tr) := by
  intro as F μ H σ ρ k st rh q
  refine WE.fin (WE.of (pe_lst WA.pa) ((h as F μ H σ ρ _ st rh q).mono fun vs H1 ⟨as1, F1, μ1, ss, o1, s1, r1, hl, q1⟩ => ?_))
  obtain ⟨ds, rfl, q2⟩ := colds_some q1
  exact ⟨by rw [lim_eq, r1.length]; exact hl, fun p hp => .op o1 s1 (.lst s1.le hp r1.cold q2)⟩
/-- a list that is owned -/
def rLstH (tr : RA) : RE := fun ρ μ k => tr ρ μ fun ss μ1 => ss.length ≤ lim ∧ colds ss fun ds => k (.hot μ1.hot.length) ⟨μ1.hot ++ [.lst ds], μ1.n⟩
theorem de_lstH (h : DA X pu es tr) : DE X pu (.List es pos) (rLstH tr) := by
  intro as F μ H σ ρ k st rh q
  refine WE.of (pe_lst WA.pa) ((h as F μ H σ ρ _ st rh q).mono fun vs H1 ⟨as1, F1, μ1, ss, o1, s1, r1, hl, q1⟩ => ?_)
  obtain ⟨ds, rfl, q2⟩ := colds_some q1
  refine ⟨by rw [lim_eq, r1.length]; exact hl, fun p hp => ?_⟩
  obtain ⟨s2, o2⟩ := s1.newHot (c := .lst ds) hp ⟨s1.le.free hp, vs, upd_same, r1.cold⟩
  refine ⟨_, _, _, .hot μ1.hot.length, o1.trans o2, s2, ?_, q2⟩
  exact ⟨p, by rw [← s1.len]; simp, rfl⟩
/-- {} that is owned -/
def rDctH : RE := fun ρ μ k => k (.hot μ.hot.length) ⟨μ.hot ++ [.dk []], μ.n⟩
theorem de_dctH : DE X pu (.Dict [] [] pos) rDctH := by
  intro as F μ H σ ρ k st rh q
  refine WE.of pe_dnewK fun p hp => ?_
  obtain ⟨s2, o2⟩ := st.newHot (o := .dK []) (c := .dk []) hp ⟨st.le.free hp, [], upd_same, by simp only [RepK]⟩
  exact ⟨_, _, _, .hot μ.hot.length, o2, s2, ⟨p, by rw [← st.len]; simp, rfl⟩, q⟩
def rDct0 : RE := fun _ μ k => k (.c (.dk [])) μ
theorem de_dct0 : DE X pu (.Dict [] [] pos) rDct0 := by
  intro as F μ H σ ρ k st rh q
  refine WE.fin (WE.of pe_dnewK fun p hp => ?_)
  exact .op .refl st (.dict hp (by simp only [RepK]) q)
end
end DL
/-! ## DL7 -/
namespace DL
open PySem PySem.Spec PyProof.Rows L2
/-! ### dicts at data level -/
section
variable {κ : Type} [DecidableEq κ]
def putD (kvs : List (κ × D)) (k : κ) (v : D) : List (κ × D) :=
  if (kvs.any fun kv => decide (kv.1 = k)) = true then kvs.map (fun kv => if kv.1 = k then (kv.1, v) else kv) else kvs ++ [(k, v)]
def dropD (kvs : List (κ × D)) (k : κ) : List (κ × D) := kvs.filter fun kv => decide (kv.1 ≠ k)
end
def mergeD (kvs more : List (Key × D)) : List (Key × D) := more.foldl (fun acc kv => putD acc kv.1 kv.2) kvs
theorem RepK.any {F : Hp} {k : Key} : ∀ {bs : List (Key × D)} {ks : List (Key × V)}, RepK F bs ks → (ks.any fun kv => decide (kv.1 = k)) = (bs.any fun kv => decide (kv.1 = k))
  | [], _, h => by simp only [RepK] at h; subst h; rfl
  | (k', d) :: bs, _, h => by
    simp only [RepK] at h
    obtain ⟨y, r, rfl, h1, h2⟩ := h
    simp only [List.any_cons]
    rw [RepK.any h2]
theorem RepK.map {F : Hp} {k : Key} {d : D} {v : V} (rd : Rep F d v) : ∀ {bs : List (Key × D)} {ks : List (Key × V)}, RepK F bs ks → RepK F (bs.map fun kv => if kv.1 = k then (kv.1, d) else kv) (ks.map fun kv => if kv.1 = k then (kv.1, v) else kv)
  | [], _, h => by simp only [RepK] at h; subst h; simp [RepK]
  | (k', d') :: bs, _, h => by
    simp only [RepK] at h
    obtain ⟨y, r, rfl, h1, h2⟩ := h
    simp only [List.map_cons]
    by_cases e : k' = k
    · simp only [e, if_true, RepK]
      exact ⟨_, _, rfl, rd, RepK.map rd h2⟩
    · simp only [e, if_false, RepK]
      exact ⟨_, _, rfl, h1, RepK.map rd h2⟩
theorem RepK.app {F : Hp} : ∀ {bs cs : List (Key × D)} {ks ls : List (Key × V)}, RepK F bs ks → RepK F cs ls → RepK F (bs ++ cs) (ks ++ ls)
  | [], _, _, _, h, k => by simp only [RepK] at h; subst h; simpa using k
  | (k', d) :: bs, _, _, _, h, k => by
    simp only [RepK] at h
    obtain ⟨y, r, rfl, h1, h2⟩ := h
    simp only [List.cons_append, RepK]
    exact ⟨_, _, rfl, h1, RepK.app h2 k⟩
theorem RepK.put {F : Hp} {bs : List (Key × D)} {ks : List (Key × V)} (h : RepK F bs ks) (k : Key) {d : D} {v : V} (rd : Rep F d v) : RepK F (putD bs k d) (putK ks k v) := by
  unfold putD putK
  rw [h.any]
  split
  · exact h.map rd
  · exact h.app (by simp only [RepK]; exact ⟨_, _, rfl, rd, rfl⟩)
theorem RepK.drop {F : Hp} (k : Key) : ∀ {bs : List (Key × D)} {ks : List (Key × V)}, RepK F bs ks → RepK F (dropD bs k) (dropK ks k)
  | [], _, h => by simp only [RepK] at h; subst h; simp [RepK, dropD, dropK]
  | (k', d') :: bs, _, h => by
    simp only [RepK] at h
    obtain ⟨y, r, rfl, h1, h2⟩ := h
    have ih := RepK.drop k h2
    unfold dropD dropK at ih ⊢
    by_cases e : k' = k
    · simpa [e] using ih
    · simp only [List.filter_cons, e, ne_eq, not_false_eq_true, decide_true, if_true, RepK]
      exact ⟨_, _, rfl, h1, ih⟩
theorem RepK.merge {F : Hp} : ∀ {cs bs : List (Key × D)} {ls ks : List (Key × V)}, RepK F bs ks → RepK F cs ls → RepK F (mergeD bs cs) (mergeK ks ls)
  | [], _, _, _, h, k => by simp only [RepK] at k; subst k; exact h
  | (k', d) :: cs, _, _, _, h, k => by
    simp only [RepK] at k
    obtain ⟨y, r, rfl, h1, h2⟩ := k
    show RepK F (mergeD (putD _ k' d) cs) (mergeK (putK _ k' y) r)
    exact RepK.merge (h.put k' h1) h2
/-- a key as data -/
def kD : Key → D
  | .inl i => .int i
  | .inr x => .str x
theorem rep_kD {F : Hp} (k : Key) : Rep F (kD k) (kV k) := by cases k <;> simp [kD, kV, Rep]
theorem RepK.keyL {F : Hp} {bs : List (Key × D)} {ks : List (Key × V)} (h : RepK F bs ks) : Reps F (bs.map fun p => kD p.1) (ks.map fun p => kV p.1) := by
  have e : (ks.map fun p => kV p.1) = (bs.map (·.1)).map kV := by rw [← h.keys]; simp
  rw [e, show (bs.map fun p => kD p.1) = (bs.map (·.1)).map kD by simp]
  generalize bs.map (·.1) = l
  induction l with
  | nil => exact .nil
  | cons a l ih => exact .cons (rep_kD a) ih

/-! ### texts sorted -/
def sle (a b : Str) : Bool := !slt b a
theorem slt_irrefl (a : Str) : slt a a = false := by simp [slt]
theorem sle_trans (a b c : Str) (h1 : sle a b = true) (h2 : sle b c = true) : sle a c = true := by
  simp only [sle, slt, Bool.not_eq_true', decide_eq_false_iff_not] at *
  exact List.not_lt.mpr (List.le_trans (List.not_lt.mp h1) (List.not_lt.mp h2))
theorem sle_total (a b : Str) : (sle a b || sle b a) = true := by
  simp only [sle, slt, Bool.or_eq_true, Bool.not_eq_true', decide_eq_false_iff_not]
  rcases List.le_total a.cps.toList b.cps.toList with h | h
  · exact .inl (List.not_lt.mpr h)
  · exact .inr (List.not_lt.mpr h)
theorem str_ext {a b : Str} (h : a.cps.toList = b.cps.toList) : a = b := by
  cases a; cases b
  congr 1
  exact Array.toList_inj.mp h
theorem sle_antisymm (a b : Str) (h1 : sle a b = true) (h2 : sle b a = true) : a = b := by
  simp only [sle, slt, Bool.not_eq_true', decide_eq_false_iff_not] at *
  exact str_ext (List.le_antisymm (List.not_lt.mp h1) (List.not_lt.mp h2))
def sortS (xs : List Str) : List Str := xs.mergeSort sle
theorem sortS_perm (xs : List Str) : (sortS xs).Perm xs := List.mergeSort_perm xs sle
theorem sortS_sorted (xs : List Str) : (sortS xs).Pairwise (fun a b => sle a b = true) := List.pairwise_mergeSort sle_trans sle_total xs
theorem sorted_eq {xs ys : List Str} (p : ys.Perm xs) (s : ys.Pairwise (fun a b => sle a b = true)) : ys = sortS xs :=
  List.Perm.eq_of_pairwise (fun a b _ _ h1 h2 => sle_antisymm a b h1 h2) s (sortS_sorted xs) (p.trans (sortS_perm xs).symm)
end DL
/-! ## DL8 -/
namespace DL
open PySem PySem.Spec PyProof.Rows L2
/-! ### calls of builtins -/
inductive RdAts (F H : Hp) : List D → List V → Prop
  | nil : RdAts F H [] []
  | cons {d v ds vs} : RdAt F H d v → RdAts F H ds vs → RdAts F H (d :: ds) (v :: vs)
section
variable {pu : Option Addr} {as : List Addr} {F H : Hp} {μ : Mu}
theorem Sta.rds (st : Sta pu as F μ H) {ss : List S} {vs : List V} (h : RepSs pu as F ss vs) : RdAts F H (ss.map μ.rd) vs := by
  induction h with
  | nil => exact .nil
  | cons a _ ih => exact .cons (st.rd a) ih
end
abbrev GD := List D → (D → Prop) → Prop
def DC (X : Cx) (f : Value) (g : GD) : Prop := ∀ F H ds vs k, Same F H → RdAts F H ds vs → g ds k → WC X f vs H (Qc F H k)
def rCB (g : GD) (tr : RA) : RE := fun ρ μ k => tr ρ μ fun ss μ1 => g (ss.map μ1.rd) fun d => k (.c d) μ1
section
variable {X : Cx} {pu : Option Addr} {x : Str} {p pos apos : Pos} {e o : Expr} {es : List Expr} {te to : RE} {tr : RA} {id T : String} {g : GD}
theorem de_cb (hc : DC X (.builtin id) g) (hg : Gl X x) (hm : X.mg x = none) (hv : bootBuiltins x = some (.builtin id)) (ha : DA X pu (e :: es) tr) (hn : x ≠ "__name__" := by decide) (hdb : (x == ("__debug__" : Str)) = false := by decide)
    (he : starEach (e :: es) X.env = (false, eval e X.env) :: starEach es X.env := by rfl) (hpl : (backTo pos (starEach es X.env)).any (·.1) = false := by rfl) : DE X pu (.Call (.Name x p) (e :: es) [] pos) (rCB g tr) := by
  intro as F μ H σ ρ k st rh h
  refine WE.fin (WE.of (pe_callB WC.op hg hm hv WA.pa hn hdb he hpl) ((ha as F μ H σ ρ _ st rh h).mono fun vs H1 ⟨as1, F1, μ1, ss, o1, s1, r1, q1⟩ => ?_))
  exact (hc F1 H1 _ vs _ s1.le (s1.rds r1) q1).mono fun v H2 q2 => .op o1 s1 q2
theorem de_ct (hc : DC X (.type T) g) (hg : Gl X x) (hm : X.mg x = none) (hv : bootBuiltins x = some (.type T)) (ha : DA X pu (e :: es) tr) (hn : x ≠ "__name__" := by decide) (hdb : (x == ("__debug__" : Str)) = false := by decide)
    (he : starEach (e :: es) X.env = (false, eval e X.env) :: starEach es X.env := by rfl) (hpl : (backTo pos (starEach es X.env)).any (·.1) = false := by rfl) : DE X pu (.Call (.Name x p) (e :: es) [] pos) (rCB g tr) := by
  intro as F μ H σ ρ k st rh h
  refine WE.fin (WE.of (pe_callTy WC.op hg hm hv WA.pa hn hdb he hpl) ((ha as F μ H σ ρ _ st rh h).mono fun vs H1 ⟨as1, F1, μ1, ss, o1, s1, r1, q1⟩ => ?_))
  exact (hc F1 H1 _ vs _ s1.le (s1.rds r1) q1).mono fun v H2 q2 => .op o1 s1 q2
/-- one argument -/
def g1 (f : D → (D → Prop) → Prop) : GD
  | [d], k => f d k
  | _, _ => False
def g2 (f : D → D → (D → Prop) → Prop) : GD
  | [a, b], k => f a b k
  | _, _ => False
theorem dc1 {f : Value} {g : D → (D → Prop) → Prop} (h : ∀ F H d v k, Same F H → RdAt F H d v → g d k → WC X f [v] H (Qc F H k)) : DC X f (g1 g) := by
  intro F H ds vs k le r q
  cases r with
  | nil => exact q.elim
  | cons a b =>
    cases b with
    | nil => exact h F H _ _ k le a q
    | cons _ _ => exact q.elim
theorem dc2 {f : Value} {g : D → D → (D → Prop) → Prop} (h : ∀ F H a b v w k, Same F H → RdAt F H a v → RdAt F H b w → g a b k → WC X f [v, w] H (Qc F H k)) : DC X f (g2 g) := by
  intro F H ds vs k le r q
  cases r with
  | nil => exact q.elim
  | cons a b =>
    cases b with
    | nil => exact q.elim
    | cons b c =>
      cases c with
      | nil => exact h F H _ _ _ _ k le a b q
      | cons _ _ => exact q.elim
/-- len -/
def lenD : D → (D → Prop) → Prop
  | .lst ds, k => k (.int ds.length)
  | .tup ds, k => k (.int ds.length)
  | .dk kvs, k => k (.int kvs.length)
  | .str z, k => z.length ≤ lim ∧ k (.int z.length)
  | _, _ => False
theorem dc_len : DC X (.builtin "len") (g1 lenD) := dc1 fun F H d v k le ra h => by
  cases d with
  | lst ds =>
    obtain ⟨p, vs, rfl, h1, h2⟩ := ra
    exact WC.of call_len_seq ⟨p, vs, rfl, .inl (SqL.of h1), .same (d := .int ds.length) (by rw [← h2.length]; exact rep_int) h⟩
  | tup ds =>
    obtain ⟨p, vs, rfl, h1, h2⟩ := ra
    exact WC.of call_len_seq ⟨p, vs, rfl, .inr (SqT.of (le _ _ h1)), .same (d := .int ds.length) (by rw [← h2.length]; exact rep_int) h⟩
  | dk kvs =>
    obtain ⟨p, vs, rfl, h1, h2⟩ := ra
    intro pins s σ us I r
    obtain ⟨u, rfl, rx⟩ := vals1 r
    cases rx
    exact d_len I h1 fun t s' I' => ⟨.int vs.length, H, I', ⟨t, rfl⟩, .same (d := .int kvs.length) (by rw [← h2.length]; exact rep_int) h⟩
  | str z =>
    cases (show v = _ from ra)
    exact WC.of call_len_str ⟨z, rfl, by rw [lim_eq]; exact h.1, .same rep_int h.2⟩
  | _ => exact h.elim
/-- all, any, sum of lists; max, min of two ints; int of an int -/
def allD : D → (D → Prop) → Prop
  | .lst ds, k => ∃ bs : List Bool, ds = bs.map D.bl ∧ k (.bl (bs.all fun b => b))
  | _, _ => False
def anyD : D → (D → Prop) → Prop
  | .lst ds, k => ∃ bs : List Bool, ds = bs.map D.bl ∧ k (.bl (bs.any fun b => b))
  | _, _ => False
def sumD : D → (D → Prop) → Prop
  | .lst ds, k => ∃ ns : List Int, ds = ns.map D.int ∧ k (.int ns.sum)
  | _, _ => False
theorem dc_all (hc : X.calm = true) : DC X (.builtin "all") (g1 allD) := dc1 fun F H d v k le ra h => by
  cases d with
  | lst ds =>
    obtain ⟨p, vs, rfl, h1, h2⟩ := ra
    obtain ⟨bs, rfl, q⟩ := h
    rw [Reps.bls] at h2; subst h2
    exact WC.of (cr_all hc) ⟨p, bs, rfl, SqL.of h1, .same rep_bl q⟩
  | _ => exact h.elim
theorem dc_any (hc : X.calm = true) : DC X (.builtin "any") (g1 anyD) := dc1 fun F H d v k le ra h => by
  cases d with
  | lst ds =>
    obtain ⟨p, vs, rfl, h1, h2⟩ := ra
    obtain ⟨bs, rfl, q⟩ := h
    rw [Reps.bls] at h2; subst h2
    exact WC.of (cr_any hc) ⟨p, bs, rfl, SqL.of h1, .same rep_bl q⟩
  | _ => exact h.elim
theorem dc_sum (hc : X.calm = true) : DC X (.builtin "sum") (g1 sumD) := dc1 fun F H d v k le ra h => by
  cases d with
  | lst ds =>
    obtain ⟨p, vs, rfl, h1, h2⟩ := ra
    obtain ⟨bs, rfl, q⟩ := h
    rw [Reps.ints] at h2; subst h2
    exact WC.of (cr_sum hc) ⟨p, bs, rfl, SqL.of h1, .same rep_int q⟩
  | _ => exact h.elim
abbrev maxD := intD (fun _ _ => True) fun i j => .int (if j > i then j else i)
abbrev minD := intD (fun _ _ => True) fun i j => .int (if j < i then j else i)
theorem dc_max2 (hc : X.calm = true) : DC X (.builtin "max") (g2 maxD) := dc2 fun F H a b v w k le ra rb h => by
  cases a <;> cases b <;> first | exact h.elim | skip
  cases (show v = _ from ra); cases (show w = _ from rb)
  exact WC.of (call_max2 hc) ⟨_, _, rfl, .same rep_int h.2⟩
theorem dc_min2 (hc : X.calm = true) : DC X (.builtin "min") (g2 minD) := dc2 fun F H a b v w k le ra rb h => by
  cases a <;> cases b <;> first | exact h.elim | skip
  cases (show v = _ from ra); cases (show w = _ from rb)
  exact WC.of (call_min2 hc) ⟨_, _, rfl, .same rep_int h.2⟩
def intOfD : D → (D → Prop) → Prop
  | .int i, k => k (.int i)
  | _, _ => False
theorem dc_int : DC X (.type "int") (g1 intOfD) := dc1 fun F H d v k le ra h => by
  cases d with
  | int i => cases (show v = _ from ra); exact WC.of call_int1 (.inl ⟨i, rfl, .same rep_int h⟩)
  | _ => exact h.elim
/-- a text's signs -/
def signs (z : Str) : List D := z.cps.toList.map fun c => .str ⟨#[c]⟩
theorem vals_get : ∀ {xs : List V} {us : List Value}, us.length = xs.length → (∀ (j : Nat) (v : Value), us[j]? = some v → ∃ x, xs[j]? = some x ∧ RelV x v) → Vals xs us
  | [], [], _, _ => .nil
  | [], _ :: _, h, _ => by cases h
  | _ :: _, [], h, _ => by cases h
  | x :: xs, u :: us, hl, h => by
    obtain ⟨y, e, r⟩ := h 0 u rfl
    cases Option.some.inj e
    exact .cons r (vals_get (Nat.succ.inj hl) fun j v e => h (j + 1) v e)
/-- list(..), tuple(..) -/
def listOfD : D → (D → Prop) → Prop
  | .lst ds, k => k (.lst ds)
  | .tup ds, k => k (.lst ds)
  | .str z, k => z.cps.size ≤ lim ∧ k (.lst (signs z))
  | .dk kvs, k => k (.lst (kvs.map fun p => kD p.1))
  | _, _ => False
theorem dc_list (hc : X.calm = true) : DC X (.type "list") (g1 listOfD) := dc1 fun F H d v k le ra h => by
  cases d with
  | lst ds =>
    obtain ⟨p, vs, rfl, h1, h2⟩ := ra
    exact WC.of call_list_of ⟨p, vs, rfl, .inl (SqL.of h1), fun l hl => .lst le hl h2 h⟩
  | tup ds =>
    obtain ⟨p, vs, rfl, h1, h2⟩ := ra
    exact WC.of call_list_of ⟨p, vs, rfl, .inr (SqT.of (le _ _ h1)), fun l hl => .lst le hl h2 h⟩
  | dk kvs =>
    obtain ⟨p, vs, rfl, h1, h2⟩ := ra
    exact WC.of (call_listD hc) ⟨p, vs, rfl, h1, fun l hl => .lst le hl h2.keyL h⟩
  | str z =>
    cases (show v = _ from ra)
    intro pins s σ us I r
    obtain ⟨u, rfl, rx⟩ := vals1 r
    obtain ⟨t, rfl⟩ := rx
    have hz : z.cps.size ≤ sizeLine := by rw [lim_eq]; exact h.1
    refine call_list_str (hn := hz) (I.ok.hd hc) z t fun h' tk acc c' hk hD hacc => ?_
    have hv : Vals (z.cps.toList.map fun c => V.str ⟨#[c]⟩) acc.toList := vals_get (by simp [hacc.1]) fun j w e => by
      obtain ⟨c, u, e1, e2⟩ := hacc.2 j w (by rw [← Array.getElem?_toList]; exact e)
      refine ⟨_, by rw [List.getElem?_map, Array.getElem?_toList, e1]; rfl, ?_⟩
      rw [e2]
      exact ⟨u, rfl⟩
    refine ⟨.ref s.heap.objs.size, upd H s.heap.objs.size (.lst (z.cps.toList.map fun c => V.str ⟨#[c]⟩)), I.laid (t' := tk) hk (Nat.le_refl _)
      (show ObjOk X.prog X.w _ _ _ (.lst (z.cps.toList.map fun c => V.str ⟨#[c]⟩)) from ⟨by simpa using hz, acc.toList, c', hv, by rw [Array.toArray_toList]; exact hD⟩), rfl, ?_⟩
    refine .lst le (I.hok.fresh (Nat.le_refl _)) ?_ h.2
    exact (Reps.map_of (f := fun c => D.str ⟨#[c]⟩) (g := fun c => V.str ⟨#[c]⟩) fun _ _ => by simp only [Rep]).mpr rfl
  | _ => exact h.elim
def tupOfD : D → (D → Prop) → Prop
  | .lst ds, k => k (.tup ds)
  | .tup ds, k => k (.tup ds)
  | _, _ => False
theorem dc_tuple : DC X (.type "tuple") (g1 tupOfD) := dc1 fun F H d v k le ra h => by
  cases d with
  | lst ds =>
    obtain ⟨p, vs, rfl, h1, h2⟩ := ra
    exact WC.of call_tuple_of ⟨p, vs, rfl, .inl ⟨SqL.of h1, fun l hl => .tup le hl h2 h⟩⟩
  | tup ds =>
    obtain ⟨p, vs, rfl, h1, h2⟩ := ra
    exact WC.of call_tuple_of ⟨p, vs, rfl, .inr ⟨SqT.of (le _ _ h1), .same (d := .tup ds) (by simp only [Rep]; exact ⟨p, vs, rfl, h1, h2⟩) h⟩⟩
  | _ => exact h.elim
/-- dict(pairs), dict(d) -/
def pairs : List D → (List (Key × D) → Prop) → Prop
  | [], k => k []
  | .tup [.str x, d] :: r, k => pairs r fun kvs => k ((.inr x, d) :: kvs)
  | .tup [.int x, d] :: r, k => pairs r fun kvs => k ((.inl x, d) :: kvs)
  | _ :: _, _ => False
theorem pairs_some : ∀ {ds : List D} {k : List (Key × D) → Prop}, pairs ds k → ∃ kvs : List (Key × D), ds = kvs.map (fun p => D.tup [kD p.1, p.2]) ∧ k kvs
  | [], _, h => ⟨[], rfl, h⟩
  | d :: r, k, h => by
    unfold pairs at h
    split at h
    · exact ⟨[], by assumption, h⟩
    · rename_i e
      cases e
      obtain ⟨kvs, e, q⟩ := pairs_some (ds := r) h
      exact ⟨_, by rw [e]; rfl, q⟩
    · rename_i e
      cases e
      obtain ⟨kvs, e, q⟩ := pairs_some (ds := r) h
      exact ⟨_, by rw [e]; rfl, q⟩
    · exact h.elim
theorem rep_pairs {F : Hp} : ∀ {kvs : List (Key × D)} {vs : List V}, Reps F (kvs.map fun p => D.tup [kD p.1, p.2]) vs → ∃ (ps : List Addr) (ws : List (Key × V)), vs = ps.map V.ref ∧ RepK F kvs ws ∧ Paired (fun p kv => F p = some (.tup [kV kv.1, kv.2])) ps ws
  | [], _, h => by
    simp only [List.map_nil, Reps] at h
    subst h
    exact ⟨[], [], rfl, by simp only [RepK], .nil⟩
  | (k, d) :: kvs, _, h => by
    simp only [List.map_cons, Reps, Rep] at h
    obtain ⟨v, r, rfl, ⟨a, us, rfl, h1, h2⟩, h3⟩ := h
    obtain ⟨ps, ws, rfl, h4, h5⟩ := rep_pairs h3
    obtain ⟨x, t, rfl, hx, y, t', rfl, hy, rfl⟩ := h2
    have ex : x = kV k := by
      cases k <;> simpa [kD, kV, Rep] using hx
    subst ex
    exact ⟨a :: ps, (k, y) :: ws, rfl, by simp only [RepK]; exact ⟨y, ws, rfl, hy, h4⟩, .cons h1 h5⟩
def dictOfD : D → (D → Prop) → Prop
  | .lst ds, k => pairs ds fun kvs => k (.dk (mergeD [] kvs))
  | .dk kvs, k => k (.dk kvs)
  | _, _ => False
theorem dc_dict (hc : X.calm = true) : DC X (.type "dict") (g1 dictOfD) := dc1 fun F H d v k le ra h => by
  cases d with
  | lst ds =>
    obtain ⟨p, vs, rfl, h1, h2⟩ := ra
    obtain ⟨kvs, rfl, q⟩ := pairs_some h
    obtain ⟨ps, ws, rfl, h4, h5⟩ := rep_pairs h2
    refine WC.of (call_dictP hc) ⟨p, ps, ws, rfl, SqL.of h1, Paired.mapP h5 fun a b z => SqT.of (le _ _ z), fun l hl => .dict hl (RepK.merge (by simp only [RepK]) h4) q⟩
  | dk kvs =>
    obtain ⟨p, vs, rfl, h1, h2⟩ := ra
    exact WC.of call_dictD ⟨p, vs, rfl, h1, fun l hl => .dict hl h2 h⟩
  | _ => exact h.elim
/-- sorted: texts -/
def sortD : D → (D → Prop) → Prop
  | .lst ds, k => ∃ xs : List Str, ds = xs.map D.str ∧ xs.length < 64 ∧ k (.lst ((sortS xs).map D.str))
  | .dk kvs, k => ∃ xs : List Str, kvs.map (·.1) = xs.map Sum.inr ∧ xs.length < 64 ∧ k (.lst ((sortS xs).map D.str))
  | _, _ => False
theorem sle_lt (a b : Str) : sle a b = !ltCps b.cps.toList a.cps.toList := by
  rw [ltCps_eq]; rfl
theorem rising_all : ∀ (r : List Str) (p : Str), risingS p r = true → (p :: r).Pairwise (fun a b => sle a b = true)
  | [], p, _ => by simp
  | x :: r, p, h => by
    simp only [risingS, Bool.and_eq_true] at h
    have ih := rising_all r x h.2
    have hx : sle p x = true := by rw [sle_lt]; exact h.1
    refine List.pairwise_cons.mpr ⟨fun y hy => ?_, ih⟩
    rcases List.mem_cons.mp hy with rfl | hy
    · exact hx
    · exact sle_trans _ _ _ hx ((List.pairwise_cons.mp ih).1 y hy)
theorem sortedS_all {r : List Str} (h : sortedS r = true) : r.Pairwise (fun a b => sle a b = true) := by
  cases r with
  | nil => simp
  | cons x r => exact rising_all r x h
theorem reps_strs {F : Hp} (xs : List Str) : Reps F (xs.map D.str) (xs.map V.str) := Reps.strs.mpr rfl
theorem dc_sorted (hc : X.calm = true) : DC X (.builtin "sorted") (g1 sortD) := dc1 fun F H d v k le ra h => by
  cases d with
  | lst ds =>
    obtain ⟨p, vs, rfl, h1, h2⟩ := ra
    obtain ⟨xs, rfl, hl, q⟩ := h
    rw [Reps.strs] at h2; subst h2
    refine WC.of cr_sortedS ⟨p, xs, rfl, SqL.of h1, hl, fun ys l perm sorted hl => ?_⟩
    have := sorted_eq perm (sortedS_all sorted)
    subst this
    exact .lst le hl (reps_strs _) q
  | dk kvs =>
    obtain ⟨p, vs, rfl, h1, h2⟩ := ra
    obtain ⟨xs, e, hl, q⟩ := h
    refine WC.of (call_sortedD hc) ⟨p, vs, xs, rfl, h1, by rw [h2.keys]; exact e, hl, fun ys l perm sorted hl => ?_⟩
    have := sorted_eq perm (sortedS_all sorted)
    subst this
    exact .lst le hl (reps_strs _) q
  | _ => exact h.elim

/-! ### isinstance -/
def tyN : D → Option String
  | .non => some "NoneType"
  | .bl _ => some "bool"
  | .int _ => some "int"
  | .str _ => some "str"
  | .lst _ => some "list"
  | .tup _ => some "tuple"
  | .dk _ => some "dict"
  | _ => none
theorem tyN_at {F H : Hp} {d : D} {v : V} {n : String} (le : Same F H) (ra : RdAt F H d v) (e : tyN d = some n) : TyX X.K H v (.type n) := by
  cases d with
  | non => cases (show v = _ from ra); cases e; exact .base .non
  | bl c => cases (show v = _ from ra); cases e; exact .base (.bl _)
  | int c => cases (show v = _ from ra); cases e; exact .base (.int _)
  | str c => cases (show v = _ from ra); cases e; exact .base (.str _)
  | lst c => obtain ⟨p, vs, rfl, h1, _⟩ := ra; cases e; exact .base (.lst h1)
  | tup c => obtain ⟨p, vs, rfl, h1, _⟩ := ra; cases e; exact .base (.tup (le _ _ h1))
  | dk c =>
    obtain ⟨p, vs, rfl, h1, _⟩ := ra
    cases e
    rcases h1 with h1 | ⟨o, h1⟩
    · exact .base (.dK h1)
    · exact .fDict h1
  | _ => cases e
/-- isinstance(e, T), T a built-in type's name -/
def rIsi (T : String) (te : RE) : RE := fun ρ μ k => te ρ μ fun d μ1 => onS (tyN (μ1.rd d)) fun n => onS (kitB n T) fun b => k (.c (.bl b)) μ1
theorem de_isi {tx : Str} {p2 : Pos} (he : DE X pu e te) (hg : Gl X "isinstance") (hm : X.mg "isinstance" = none) (hg2 : Gl X tx) (hm2 : X.mg tx = none) (hv2 : bootBuiltins tx = some (.type T)) (hn : tx ≠ "__name__" := by decide) (hd : (tx == ("__debug__" : Str)) = false := by decide)
    (hs : starEach [e, .Name tx p2] X.env = (false, eval e X.env) :: starEach [.Name tx p2] X.env := by rfl) (hs2 : starEach [.Name tx p2] X.env = (false, eval (.Name tx p2) X.env) :: starEach [] X.env := by rfl) (hpl : (backTo pos (starEach [.Name tx p2] X.env)).any (·.1) = false := by rfl) :
    DE X pu (.Call (.Name "isinstance" p) [e, .Name tx p2] [] pos) (rIsi T te) := by
  intro as F μ H σ ρ k st rh h
  refine WE.of (pe_callB call_isi hg hm (by decide +kernel) (pa_cons WE.pe (pa_cons (pe_bltn (v := .ty T) hg2 hm2 hv2 rfl hn hd) pa_nil hs2) hs) (he := hs) (hpl := hpl)) ((he as F μ H σ ρ _ st rh h).mono fun v H1 ⟨as1, F1, μ1, d, o1, s1, r1, q1⟩ => ?_)
  obtain ⟨n, e1, q1⟩ := onS_some q1
  obtain ⟨b, e2, q1⟩ := onS_some q1
  exact ⟨v, .ty T, .type n, .type T, b, rfl, .ty T, tyN_at s1.le (s1.rd r1) e1, kit_ty e2, .of (d := .c (.bl b)) o1 s1 (rep_bl (F := F1)) q1⟩

/-! ### fields, calls of defs -/
def fldD (C : Addr) (f : Str) : D → (D → Prop) → Prop
  | .obj C' fs, k => C' = C ∧ onS (fs.lookup f) k
  | _, _ => False
def rFld (C : Addr) (f : Str) (te : RE) : RE := fun ρ μ k => te ρ μ fun d μ1 => fldD C f (μ1.rd d) fun r => k (.c r) μ1
theorem fldD_some {C : Addr} {f : Str} {d : D} {k : D → Prop} (h : fldD C f d k) : ∃ fs r, d = .obj C fs ∧ fs.lookup f = some r ∧ k r := by
  cases d with
  | obj C' fs =>
    obtain ⟨rfl, h⟩ := h
    obtain ⟨r, e, q⟩ := onS_some h
    exact ⟨fs, r, rfl, e, q⟩
  | _ => exact h.elim
theorem RepF.look {F : Hp} {f : Str} {d : D} : ∀ {fs : List (Str × D)} {us : List (Str × V)}, RepF F fs us → fs.lookup f = some d → ∃ v, us.lookup f = some v ∧ Rep F d v
  | [], _, _, e => by simp at e
  | (k, d') :: fs, _, h, e => by
    simp only [RepF] at h
    obtain ⟨v, t, rfl, h1, h2⟩ := h
    simp only [List.lookup_cons] at e ⊢
    cases hb : f == k with
    | true => rw [hb] at e; cases e; exact ⟨v, rfl, h1⟩
    | false => rw [hb] at e; exact RepF.look h2 e
theorem de_fld {C : Addr} {f : Str} (he : DE X pu e te) (cl : Cls X.K C) (na : NoAttr X.K C f) (hb : attributeBase e f X.env (eval e X.env) = eval e X.env := by rfl) : DE X pu (.Attribute e f pos) (rFld C f te) := by
  intro as F μ H σ ρ k st rh h
  refine WE.fin (WE.of (pe_fld WE.pe hb) ((he as F μ H σ ρ _ st rh h).mono fun v H1 ⟨as1, F1, μ1, d, o1, s1, r1, q1⟩ => ?_))
  have r := s1.rd r1
  obtain ⟨fs, d', e0, e, q⟩ := fldD_some q1
  rw [e0] at r
  obtain ⟨a, dx, us, rfl, h1, h2⟩ := r
  obtain ⟨w, e2, r2⟩ := h2.look e
  exact ⟨a, C, dx, us, w, rfl, h1, cl, na, e2, .op o1 s1 (.same r2 q)⟩
/-- a def's promise at data level: arguments (no owned cell), draws so far, what is wanted of the answer and of the draws then -/
abbrev Spec := List S → Nat → (D → Nat → Prop) → Prop
def spOf (sp : Spec) : Sp := fun vs H Q _ => ∃ pu F n ss k, Sta pu [] F ⟨[], n⟩ H ∧ RepSs pu [] F ss vs ∧ sp ss n k ∧ ∀ v F' H' n' d, Out pu [] F H [] F' H' → Sta pu [] F' ⟨[], n'⟩ H' → Rep F' d v → k d n' → Q v H'
def argS : List S → (List S → Prop) → Prop
  | [], k => k []
  | .hot _ :: _, _ => False
  | s :: r, k => argS r fun t => k (s :: t)
theorem argS_some {pu : Option Addr} {as : List Addr} {F : Hp} : ∀ {ss : List S} {vs : List V} {k : List S → Prop}, RepSs pu as F ss vs → argS ss k → RepSs pu [] F ss vs ∧ k ss
  | [], _, _, r, h => by cases r; exact ⟨.nil, h⟩
  | .c d :: ss, _, k, r, h => by
    cases r with
    | cons a b =>
      obtain ⟨h1, h2⟩ := argS_some (ss := ss) b h
      exact ⟨.cons a h1, h2⟩
  | .pur :: ss, _, k, r, h => by
    cases r with
    | cons a b =>
      obtain ⟨h1, h2⟩ := argS_some (ss := ss) b h
      exact ⟨.cons a h1, h2⟩
  | .hot _ :: ss, _, k, r, h => h.elim
def rCall (sp : Spec) (tr : RA) : RE := fun ρ μ k => tr ρ μ fun ss μ1 => argS ss fun ss => sp ss μ1.n fun d n' => k (.c d) ⟨μ1.hot, n'⟩
/-- the def that the name x holds keeps sp -/
structure FnD (P : Program) (w : World) (K : PySem.W.Frag) (mg : Str → Option Value) (base : Heap) (k : Nat) (x : Str) (sp : Spec) : Prop where
  ok : ∃ (f : Addr) (fd : FuncData) (ps : List Str), FnOk P w K mg base CX0 k f fd ps (spOf sp) ∧ mg x = some (.ref f) ∧ PySem.W.keepIn K (.ref f) = true ∧ Binds K fd ps []
theorem de_call {k : Nat} {sp : Spec} (G : FnD X.prog X.w X.K X.mg X.base k x sp) (hr : Room k X.A) (hg : Gl X x) (ha : DA X pu (e :: es) tr) (hdb : (x == ("__debug__" : Str)) = false := by decide)
    (he : starEach (e :: es) X.env = (false, eval e X.env) :: starEach es X.env := by rfl) (hpl : (backTo pos (starEach es X.env)).any (·.1) = false := by rfl) : DE X pu (.Call (.Name x p) (e :: es) [] pos) (rCall sp tr) := by
  intro as F μ H σ ρ kk st rh h
  obtain ⟨f, fd, ps, F0, hm, hk, hb⟩ := G.ok
  refine WE.of (pe_call F0 hr hg hm hk hb .nil pass0 WA.pa hdb he hpl) ((ha as F μ H σ ρ _ st rh h).mono fun vs H1 ⟨as1, F1, μ1, ss, o1, s1, r1, q1⟩ => ?_)
  obtain ⟨r2, q2⟩ := argS_some r1 q1
  rw [List.append_nil]
  refine ⟨pu, F1, μ1.n, ss, _, s1.forget, r2, q2, fun v F' H' n' d o s r q => ?_⟩
  obtain ⟨s3, o3⟩ := s1.restore o s
  exact .of (d := .c d) (o1.trans o3) s3 r q
end
end DL
/-! ## DL9 -/
namespace DL
open PySem PySem.Spec PyProof.Rows L2
/-! ### what is walked -/
/-- the iterator yields these data -/
def Yields (pu : Option Addr) (J : It) (F1 : Hp) (ds : List D) : Prop := ∀ as F μ H, Same F1 F → Sta pu as F μ H → ∀ i : Nat,
  (∀ d, ds[i]? = some d → J.go i H ∧ ∀ x H', J.yld i H x H' → ∃ F', Out pu as F H as F' H' ∧ Sta pu as F' μ H' ∧ Rep F' d x) ∧ (ds[i]? = none → J.stop i H)
abbrev RI := Rho → Mu → (List D → Mu → Prop) → Prop
def WI (X : Cx) (tg iter : Expr) : TI := fun σ H R => ∀ (pins : List (Addr × Obj)) (s : Shared), Inv X pins σ H s → wpAny (model X.prog X.w) X.A (eval iter X.env) (fun v s1 => wpAny (model X.prog X.w) X.A (pyIter v) (PIE X pins σ tg R) X.xe s1) X.xe s
theorem WI.pi {X : Cx} {tg iter : Expr} : PI X tg iter (WI X tg iter) := ⟨fun pins s _ _ _ I h => h pins s I⟩
theorem WI.of {X : Cx} {tg iter : Expr} {wi : TI} {σ : L2.St} {H : Hp} {R : It → Hp → Prop} (h : PI X tg iter wi) (q : wi σ H R) : WI X tg iter σ H R := fun pins s I => h.run pins s σ H R I q
theorem PIE.mono {X : Cx} {pins : List (Addr × Obj)} {σ : L2.St} {tg : Expr} {R R' : It → Hp → Prop} {v : Value} {s : Shared} (h : PIE X pins σ tg R v s) (k : ∀ J H', R J H' → R' J H') : PIE X pins σ tg R' v s :=
  let ⟨it, fp, tn, J, H', e, I, T, t0, f, q⟩ := h
  ⟨it, fp, tn, J, H', e, I, T, t0, f, k J H' q⟩
theorem WI.mono {X : Cx} {tg iter : Expr} {σ : L2.St} {H : Hp} {R R' : It → Hp → Prop} (h : WI X tg iter σ H R) (k : ∀ J H', R J H' → R' J H') : WI X tg iter σ H R' := fun pins s I =>
  thn (h pins s I) fun _ _ q => thn q fun _ _ z => PIE.mono z k
def Qi (pu : Option Addr) (as : List Addr) (F H : Hp) (k : List D → Mu → Prop) : It → Hp → Prop := fun J H' => ∃ as' F' μ' ds, Out pu as F H as' F' H' ∧ Sta pu as' F' μ' H' ∧ Yields pu J F' ds ∧ k ds μ'
def DI (X : Cx) (pu : Option Addr) (tg iter : Expr) (t : RI) : Prop := ∀ as F μ H σ ρ k, Sta pu as F μ H → RhoOk pu as F ρ σ → t ρ μ k → WI X tg iter σ H (Qi pu as F H k)
section
variable {X : Cx} {pu : Option Addr} {as : List Addr} {F F1 H : Hp} {μ : Mu} {σ : L2.St} {tg e e2 : Expr} {te te2 : RE} {pos p apos cpos : Pos}
theorem Sta.tup {x y : V} {a b : D} {T : Addr} (st : Sta pu as F μ H) (hT : H T = none) (ra : Rep F a x) (rb : Rep F b y) :
    ∃ F', Out pu as F H as F' (upd H T (.tup [x, y])) ∧ Sta pu as F' μ (upd H T (.tup [x, y])) ∧ Rep F' (.tup [a, b]) (.ref T) := by
  obtain ⟨s2, o2⟩ := st.new (o := .tup [x, y]) hT
  refine ⟨_, o2, s2, ?_⟩
  have g : Same F (upd F T (.tup [x, y])) := same_upd (st.le.free hT)
  simp only [Rep]
  exact ⟨T, [x, y], rfl, upd_same, .cons (ra.mono g) (.cons (rb.mono g) .nil)⟩
theorem ylist {K : PySem.W.Frag} {a : Addr} {vs : List V} {ds : List D} (h : F1 a = some (.lst vs)) (r : Reps F1 ds vs) : Yields pu (Itl K a) F1 ds := by
  intro as F μ H g st i
  have hH : H a = some (.lst vs) := st.le _ _ (g _ _ h)
  refine ⟨fun d e => ?_, fun e => ?_⟩
  · obtain ⟨v, e1, r1⟩ := r.get e
    refine ⟨⟨vs, v, SqL.of hH, e1⟩, fun x H' y => ?_⟩
    obtain ⟨rfl, y⟩ := y
    have := y vs (SqL.of hH)
    rw [e1] at this
    cases this
    exact ⟨F, .refl, st, r1.mono g⟩
  · refine ⟨vs, SqL.of hH, ?_⟩
    have := r.length
    have := List.getElem?_eq_none_iff.mp e
    omega
theorem ytup {K : PySem.W.Frag} {a : Addr} {vs : List V} {ds : List D} (h : F1 a = some (.tup vs)) (r : Reps F1 ds vs) : Yields pu (Itt K a) F1 ds := by
  intro as F μ H g st i
  have hH : H a = some (.tup vs) := st.le _ _ (g _ _ h)
  refine ⟨fun d e => ?_, fun e => ?_⟩
  · obtain ⟨v, e1, r1⟩ := r.get e
    refine ⟨⟨vs, v, SqT.of hH, e1⟩, fun x H' y => ?_⟩
    obtain ⟨rfl, y⟩ := y
    have := y vs (SqT.of hH)
    rw [e1] at this
    cases this
    exact ⟨F, .refl, st, r1.mono g⟩
  · refine ⟨vs, SqT.of hH, ?_⟩
    have := r.length
    have := List.getElem?_eq_none_iff.mp e
    omega
theorem RepK.at {kds : List (Key × D)} {kvs : List (Key × V)} (h : RepK F kds kvs) (i : Nat) : (∃ k d v, kds[i]? = some (k, d) ∧ kvs[i]? = some (k, v) ∧ Rep F d v) ∨ (kds[i]? = none ∧ kvs.length ≤ i) := by
  have hl := h.length
  have hk := h.keys
  cases e : kds[i]? with
  | none =>
    have := List.getElem?_eq_none_iff.mp e
    exact .inr ⟨rfl, by omega⟩
  | some p =>
    obtain ⟨k, d⟩ := p
    left
    obtain ⟨v, e1, r1⟩ := h.vals.get (i := i) (d := d) (by simp [e])
    have e2 : (kvs.map (·.1))[i]? = some k := by rw [hk]; simp [e]
    rw [List.getElem?_map] at e1 e2
    cases e3 : kvs[i]? with
    | none => rw [e3] at e1; cases e1
    | some q =>
      rw [e3] at e1 e2
      simp only [Option.map_some, Option.some.injEq] at e1 e2
      exact ⟨k, d, v, rfl, by rw [← e1, ← e2], r1⟩
theorem ykeys {a : Addr} {o : Obj} {kvs : List (Key × V)} {kds : List (Key × D)} (h : F1 a = some (.frz o (.dK kvs))) (r : RepK F1 kds kvs) : Yields pu (Itk a o kvs) F1 (kds.map fun p => kD p.1) := by
  intro as F μ H g st i
  have hH : H a = some (.frz o (.dK kvs)) := st.le _ _ (g _ _ h)
  rcases r.at i with ⟨k, d, v, e1, e2, r1⟩ | ⟨e1, e2⟩
  · refine ⟨fun d' e => ⟨⟨hH, (List.getElem?_eq_some_iff.mp e2).1⟩, fun x H' y => ?_⟩, fun e => by simp [e1] at e⟩
    obtain ⟨rfl, k', v', e3, rfl⟩ := y
    rw [e2] at e3
    cases e3
    simp [e1] at e
    subst e
    exact ⟨F, .refl, st, rep_kD k⟩
  · exact ⟨fun d' e => by simp [e1] at e, fun _ => ⟨hH, e2⟩⟩
theorem yvals {a : Addr} {o : Obj} {kvs : List (Key × V)} {kds : List (Key × D)} (h : F1 a = some (.frz o (.dK kvs))) (r : RepK F1 kds kvs) : Yields pu (Itd a o kvs) F1 (kds.map (·.2)) := by
  intro as F μ H g st i
  have hH : H a = some (.frz o (.dK kvs)) := st.le _ _ (g _ _ h)
  rcases r.at i with ⟨k, d, v, e1, e2, r1⟩ | ⟨e1, e2⟩
  · refine ⟨fun d' e => ⟨⟨hH, (List.getElem?_eq_some_iff.mp e2).1⟩, fun x H' y => ?_⟩, fun e => by simp [e1] at e⟩
    obtain ⟨rfl, k', e3⟩ := y
    rw [e2] at e3
    cases e3
    simp [e1] at e
    subst e
    exact ⟨F, .refl, st, r1.mono g⟩
  · exact ⟨fun d' e => by simp [e1] at e, fun _ => ⟨hH, e2⟩⟩
theorem yitems {a : Addr} {o : Obj} {kvs : List (Key × V)} {kds : List (Key × D)} (h : F1 a = some (.frz o (.dK kvs))) (r : RepK F1 kds kvs) : Yields pu (Iti a o kvs) F1 (kds.map fun p => .tup [kD p.1, p.2]) := by
  intro as F μ H g st i
  have hH : H a = some (.frz o (.dK kvs)) := st.le _ _ (g _ _ h)
  rcases r.at i with ⟨k, d, v, e1, e2, r1⟩ | ⟨e1, e2⟩
  · refine ⟨fun d' e => ⟨⟨hH, (List.getElem?_eq_some_iff.mp e2).1⟩, fun x H' y => ?_⟩, fun e => by simp [e1] at e⟩
    obtain ⟨T, k', v', e3, rfl, hT, rfl⟩ := y
    rw [e2] at e3
    cases e3
    simp [e1] at e
    subst e
    exact st.tup hT (rep_kD k) (r1.mono g)
  · exact ⟨fun d' e => by simp [e1] at e, fun _ => ⟨hH, e2⟩⟩
theorem yrange {lo : Int} {n : Nat} : Yields pu (Itr lo n) F1 ((List.range n).map fun i : Nat => .int (lo + (i : Int))) := by
  intro as F μ H g st i
  refine ⟨fun d e => ?_, fun e => ?_⟩
  · have hi : i < n := by
      have := (List.getElem?_eq_some_iff.mp e).1
      simpa using this
    refine ⟨hi, fun x H' y => ?_⟩
    obtain ⟨rfl, rfl⟩ := y
    simp [hi] at e
    subst e
    exact ⟨F, .refl, st, rep_int⟩
  · have := List.getElem?_eq_none_iff.mp e
    show n ≤ i
    simpa using this
theorem ystr {z : Str} : Yields pu (Its z) F1 (signs z) := by
  intro as F μ H g st i
  unfold signs
  refine ⟨fun d e => ?_, fun e => ?_⟩
  · rw [List.getElem?_map] at e
    cases e1 : z.cps.toList[i]? with
    | none => rw [e1] at e; cases e
    | some c =>
      rw [e1] at e
      simp only [Option.map_some, Option.some.injEq] at e
      subst e
      have hi : i < z.cps.size := by simpa using (List.getElem?_eq_some_iff.mp e1).1
      refine ⟨hi, fun x H' y => ?_⟩
      obtain ⟨rfl, c', e2, rfl⟩ := y
      have : z.cps.toList[i]? = some c' := by simpa using e2
      rw [e1] at this
      cases this
      exact ⟨F, .refl, st, rep_str⟩
  · have := List.getElem?_eq_none_iff.mp e
    show z.cps.size ≤ i
    simpa using this
/-- e itself: a list, a tuple, a dict's keys, a text -/
def iterD : D → (List D → Prop) → Prop
  | .lst ds, k => k ds
  | .tup ds, k => k ds
  | .dk kds, k => k (kds.map fun p => kD p.1)
  | .str z, k => k (signs z)
  | _, _ => False
def coldS : S → (D → Prop) → Prop
  | .c d, k => k d
  | _, _ => False
theorem coldS_some {d : S} {k : D → Prop} (h : coldS d k) : ∃ b, d = .c b ∧ k b := by
  cases d with
  | c b => exact ⟨b, rfl, h⟩
  | _ => exact h.elim
def iIt (te : RE) : RI := fun ρ μ k => te ρ μ fun d μ1 => coldS d fun d => iterD d fun ds => k ds μ1
/-- .. by values -/
theorem iter_at {pins : List (Addr × Obj)} {s : Shared} {d : D} {x : V} {v : Value} {k : List D → Prop} {R : It → Hp → Prop} (I : Inv X pins σ H s) (le : Same F H) (r : Rep F d x) (rx : RelV x v) (h : iterD d k) (hR : ∀ J ds, Yields pu J F ds → k ds → R J H) :
    wpAny (model X.prog X.w) X.A (pyIter v) (PIE X pins σ tg R) X.xe s := by
  cases d with
  | lst ds =>
    simp only [Rep] at r
    obtain ⟨a, vs, rfl, h1, h2⟩ := r
    cases rx
    obtain ⟨its, rv, pl, hz⟩ := I.list (SqL.of (le _ _ h1))
    exact wpAny_pyIter_list pl.isList (pi_one (tk := s.toks) I _ (turn_list a _) ⟨_, Heap.get?_push_size _ rfl, rfl, rfl⟩ (hR _ _ (ylist h1 h2) h))
  | tup ds =>
    simp only [Rep] at r
    obtain ⟨a, vs, rfl, h1, h2⟩ := r
    cases rx
    obtain ⟨its, rv, pl, hz⟩ := I.tuple (SqT.of (le _ _ h1))
    exact wpAny_pyIter_tuple (show s.heap.IsTuple a its.toArray from pl) (pi_one (tk := s.toks) I _ (turn_tuple a _) ⟨_, Heap.get?_push_size _ rfl, rfl, rfl⟩ (hR _ _ (ytup h1 h2) h))
  | dk kds =>
    simp only [Rep] at r
    obtain ⟨a, kvs, o, rfl, h1, h2⟩ := r
    cases rx
    obtain ⟨hs, hgd, hx, es, ep, vs, hdt, hsz, kv, hm⟩ := I.frzK (le _ _ h1)
    refine iter_keys hs hgd hx hdt (pi_one (tk := s.toks) I _ (turn_keys _ hdt) ⟨_, Heap.get?_push_size _ rfl, rfl, ?_⟩ (hR _ _ (ykeys h1 h2) h))
    rw [hsz]
    rfl
  | str z =>
    simp only [Rep] at r
    subst r
    obtain ⟨t, rfl⟩ := rx
    cases ha : z.cps.all (· < 128) with
    | false => exact wpAny_pyIter_wide ha (pi_one (tk := s.toks) I _ (turn_str _ z t "str_iterator" (.inr rfl)) ⟨_, Heap.get?_push_size _ rfl, rfl, rfl⟩ (hR _ _ ystr h))
    | true => exact wpAny_pyIter_ascii ha (pi_one (tk := s.toks) I _ (turn_str _ z t "str_ascii_iterator" (.inl rfl)) ⟨_, Heap.get?_push_size _ rfl, rfl, rfl⟩ (hR _ _ ystr h))
  | _ => exact h.elim
theorem di_it (he : DE X pu e te) : DI X pu tg e (iIt te) := by
  intro as F μ H σ ρ k st rh h pins s I
  refine thn (he as F μ H σ ρ _ st rh h pins s I) fun v s1 ⟨x, H1, I1, rx, as1, F1, μ1, d, o1, s1', r1, q1⟩ => ?_
  obtain ⟨d, rfl, q⟩ := coldS_some q1
  exact iter_at I1 s1'.le r1 rx q fun J ds y q => ⟨as1, F1, μ1, ds, o1, s1', y, q⟩
def dkS : S → (List (Key × D) → Prop) → Prop
  | .c (.dk d), k => k d
  | _, _ => False
theorem dkS_some {d : S} {k : List (Key × D) → Prop} (h : dkS d k) : ∃ b, d = .c (.dk b) ∧ k b := by
  cases d with
  | c b =>
    cases b with
    | dk b => exact ⟨b, rfl, h⟩
    | _ => exact h.elim
  | _ => exact h.elim
def iVals (te : RE) : RI := fun ρ μ k => te ρ μ fun d μ1 => dkS d fun kds => k (kds.map (·.2)) μ1
def iItems (te : RE) : RI := fun ρ μ k => te ρ μ fun d μ1 => dkS d fun kds => k (kds.map fun p => .tup [kD p.1, p.2]) μ1
theorem di_vals (he : DE X pu e te) (hbase : attributeBase e "values" X.env (eval e X.env) = eval e X.env := by rfl) (hline : (apos.endLine == cpos.line) = true := by rfl) : DI X pu tg (.Call (.Attribute e "values" apos) [] [] cpos) (iVals te) := by
  intro as F μ H σ ρ k st rh h
  refine WI.of (pi_values WE.pe hbase hline) ((he as F μ H σ ρ _ st rh h).mono fun x H1 ⟨as1, F1, μ1, d, o1, s1, r1, q1⟩ => ?_)
  obtain ⟨kds, rfl, q⟩ := dkS_some q1
  simp only [RepS, Rep] at r1
  obtain ⟨a, kvs, o, rfl, h1, h2⟩ := r1
  exact ⟨a, o, kvs, rfl, s1.le _ _ h1, as1, F1, μ1, _, o1, s1, yvals h1 h2, q⟩
theorem di_items {elts : List Expr} {kk : Nat} {tpos : Pos} (he : DE X pu e te) (hbase : attributeBase e "items" X.env (eval e X.env) = eval e X.env := by rfl) (hline : (apos.endLine == cpos.line) = true := by rfl) : DI X pu (.Tuple elts kk tpos) (.Call (.Attribute e "items" apos) [] [] cpos) (iItems te) := by
  intro as F μ H σ ρ k st rh h
  refine WI.of (pi_items WE.pe hbase hline) ((he as F μ H σ ρ _ st rh h).mono fun x H1 ⟨as1, F1, μ1, d, o1, s1, r1, q1⟩ => ?_)
  obtain ⟨kds, rfl, q⟩ := dkS_some q1
  simp only [RepS, Rep] at r1
  obtain ⟨a, kvs, o, rfl, h1, h2⟩ := r1
  exact ⟨a, o, kvs, rfl, s1.le _ _ h1, as1, F1, μ1, _, o1, s1, yitems h1 h2, q⟩
def iRng (te : RE) : RI := fun ρ μ k => te ρ μ fun d μ1 => isI (μ1.rd d) fun j => -(2 ^ 62) ≤ j ∧ j < 2 ^ 62 ∧ k ((List.range j.toNat).map fun i : Nat => .int (0 + (i : Int))) μ1
theorem di_rng (hg : Gl X "range") (hm : X.mg "range" = none) (he : DE X pu e te) (hs : starEach [e] X.env = [(false, eval e X.env)] := by rfl) : DI X pu tg (.Call (.Name "range" p) [e] [] pos) (iRng te) := by
  intro as F μ H σ ρ k st rh h
  refine WI.of (pi_range1 hg hm (pa_cons WE.pe pa_nil hs) hs) ((he as F μ H σ ρ _ st rh h).mono fun x H1 ⟨as1, F1, μ1, d, o1, s1, r1, q1⟩ => ?_)
  obtain ⟨j, e1, q2, q3, q⟩ := isI_some q1
  have r := s1.rd r1
  rw [e1] at r
  exact ⟨j, by rw [show x = V.int j from r], q2, q3, as1, F1, μ1, _, o1, s1, yrange, q⟩
def iRng2 (te te2 : RE) : RI := fun ρ μ k => te ρ μ fun d μ1 => te2 ρ μ1 fun d2 μ2 => isI (μ2.rd d) fun i => isI (μ2.rd d2) fun j => (-(2 ^ 62) ≤ i ∧ i < 2 ^ 62 ∧ -(2 ^ 62) ≤ j ∧ j < 2 ^ 62) ∧ k ((List.range (j - i).toNat).map fun t : Nat => .int (i + (t : Int))) μ2
theorem di_rng2 (hg : Gl X "range") (hm : X.mg "range" = none) (he : DE X pu e te) (he2 : DE X pu e2 te2) (hs : starEach [e, e2] X.env = [(false, eval e X.env), (false, eval e2 X.env)] := by rfl) (hs2 : starEach [e2] X.env = [(false, eval e2 X.env)] := by rfl) :
    DI X pu tg (.Call (.Name "range" p) [e, e2] [] pos) (iRng2 te te2) := by
  intro as F μ H σ ρ k st rh h
  refine WI.of (pi_range2 hg hm (pa_cons WE.pe (pa_cons WE.pe pa_nil hs2) (by rw [hs, hs2])) hs hs2) (seq2 (R := fun x y H2 => ∃ i j : Int, [x, y] = [V.int i, V.int j] ∧ (-(2 ^ 62) ≤ i ∧ i < 2 ^ 62 ∧ -(2 ^ 62) ≤ j ∧ j < 2 ^ 62) ∧ Qi pu as F H k (Itr i (j - i).toNat) H2) he he2 st rh h fun as1 F1 H1 μ1 dx dy x y o1 s1 r1 r2 q1 => ?_)
  obtain ⟨i, e1, q1⟩ := isI_some q1
  obtain ⟨j, e2, q2, q⟩ := isI_some q1
  have r := s1.rd r1
  rw [e1] at r
  have r' := s1.rd r2
  rw [e2] at r'
  exact ⟨i, j, by rw [show x = V.int i from r, show y = V.int j from r'], q2, as1, F1, μ1, _, o1, s1, yrange, q⟩
end
end DL
/-! ## DL10 -/
namespace DL
open PySem PySem.Spec PyProof.Rows L2
/-! ### statements -/
structure EndsD where
  nx : Rho → Mu → Prop
  rt : D → Nat → Prop
  bk : Rho → Mu → Prop := fun _ _ => False
  ct : Rho → Mu → Prop := fun _ _ => False
abbrev RS := EndsD → Rho → Mu → Prop
def Es (pu : Option Addr) (as : List Addr) (F H : Hp) (k : Rho → Mu → Prop) : L2.St → Hp → Prop := fun σ' H' => ∃ as' F' μ' ρ', Out pu as F H as' F' H' ∧ Sta pu as' F' μ' H' ∧ RhoOk pu as' F' ρ' σ' ∧ k ρ' μ'
def Er (pu : Option Addr) (as : List Addr) (F H : Hp) (k : D → Nat → Prop) : VK := fun v H' => ∃ as' F' μ' d, Out pu as F H as' F' H' ∧ Sta pu as' F' μ' H' ∧ Rep F' d v ∧ k d μ'.n
def Ed (pu : Option Addr) (as : List Addr) (F H : Hp) (N : EndsD) : Ends := ⟨Es pu as F H N.nx, Er pu as F H N.rt, Es pu as F H N.bk, Es pu as F H N.ct⟩
/-- wishes one below the other -/
structure LeE (D D' : Ends) : Prop where
  nx : ∀ σ H, D.nx σ H → D'.nx σ H
  rt : ∀ v H, D.rt v H → D'.rt v H
  bk : ∀ σ H, D.bk σ H → D'.bk σ H
  ct : ∀ σ H, D.ct σ H → D'.ct σ H
theorem LeE.sp {X : Cx} {pins : List (Addr × Obj)} {D D' : Ends} (h : LeE D D') {f : Flow} {s : Shared} (q : SP X pins D f s) : SP X pins D' f s := by
  cases f with
  | next => obtain ⟨σ', H', I, q⟩ := q; exact ⟨σ', H', I, h.nx _ _ q⟩
  | brk => obtain ⟨σ', H', I, q⟩ := q; exact ⟨σ', H', I, h.bk _ _ q⟩
  | cont => obtain ⟨σ', H', I, q⟩ := q; exact ⟨σ', H', I, h.ct _ _ q⟩
  | ret u => obtain ⟨v, σ', H', I, r, q⟩ := q; exact ⟨v, σ', H', I, r, h.rt _ _ q⟩
section
variable {X : Cx} {st : Stmt} {sts : List Stmt} {σ : L2.St} {H : Hp} {D D' : Ends}
theorem WS.mono (h : WS X st D σ H) (k : LeE D D') : WS X st D' σ H := fun pins s I => thn (h pins s I) fun _ _ q => k.sp q
theorem WSs.mono (h : WSs X sts D σ H) (k : LeE D D') : WSs X sts D' σ H := fun pins s I => thn (h pins s I) fun _ _ q => k.sp q
end
section
variable {pu : Option Addr} {as as' : List Addr} {F F' H H' H2 : Hp} {N : EndsD}
theorem Es.trans {k : Rho → Mu → Prop} {σ : L2.St} (o : Out pu as F H as' F' H') (q : Es pu as' F' H' k σ H2) : Es pu as F H k σ H2 := let ⟨a, b, c, d, o', r⟩ := q; ⟨a, b, c, d, o.trans o', r⟩
theorem Er.trans {k : D → Nat → Prop} {v : V} (o : Out pu as F H as' F' H') (q : Er pu as' F' H' k v H2) : Er pu as F H k v H2 := let ⟨a, b, c, d, o', r⟩ := q; ⟨a, b, c, d, o.trans o', r⟩
theorem Ed.trans (o : Out pu as F H as' F' H') : LeE (Ed pu as' F' H' N) (Ed pu as F H N) := ⟨fun _ _ q => q.trans o, fun _ _ q => q.trans o, fun _ _ q => q.trans o, fun _ _ q => q.trans o⟩
end
def DS (X : Cx) (pu : Option Addr) (st : Stmt) (t : RS) : Prop := ∀ as F μ H σ ρ N, Sta pu as F μ H → RhoOk pu as F ρ σ → t N ρ μ → WS X st (Ed pu as F H N) σ H
def DSs (X : Cx) (pu : Option Addr) (st : List Stmt) (t : RS) : Prop := ∀ as F μ H σ ρ N, Sta pu as F μ H → RhoOk pu as F ρ σ → t N ρ μ → WSs X st (Ed pu as F H N) σ H
theorem RhoOk.set {pu : Option Addr} {as : List Addr} {F : Hp} {ρ : Rho} {σ : L2.St} (h : RhoOk pu as F ρ σ) (i : Nat) {d : S} {v : V} (r : RepS pu as F d v) : RhoOk pu as F (ρ.set i (some d)) (σ.set i (some v)) := by
  refine ⟨by simp [h.1], fun j d' e => ?_⟩
  by_cases hj : j = i
  · subst hj
    have hl : j < ρ.length := by
      have := (List.getElem?_eq_some_iff.mp e).1
      simpa using this
    rw [List.getElem?_set_self hl] at e
    cases e
    exact ⟨v, List.getElem?_set_self (by rw [← h.1]; exact hl), r⟩
  · rw [List.getElem?_set_ne (Ne.symm hj)] at e
    obtain ⟨w, h1, h2⟩ := h.2 j d' e
    exact ⟨w, by rw [List.getElem?_set_ne (Ne.symm hj)]; exact h1, h2⟩
def rNext : RS := fun N ρ μ => N.nx ρ μ
def rSeq (t u : RS) : RS := fun N ρ μ => t { N with nx := u N } ρ μ
def rBrk : RS := fun N ρ μ => N.bk ρ μ
def rCont : RS := fun N ρ μ => N.ct ρ μ
def rSet (i : Nat) (te : RE) : RS := fun N ρ μ => te ρ μ fun d μ1 => N.nx (ρ.set i (some d)) μ1
def noTy : D → (D → Prop) → Prop
  | .ty _, _ => False
  | d, k => k d
def rRet (te : RE) : RS := fun N ρ μ => te ρ μ fun d μ1 => noTy (μ1.rd d) fun d => N.rt d μ1.n
/-- the cell n is frozen, wherever a name holds it -/
def thaw (n : Nat) (d : D) : Option S → Option S
  | some (.hot m) => if m = n then some (.c d) else some (.hot m)
  | x => x
def frzS (ρ : Rho) (μ : Mu) (k : Rho → Mu → Prop) : Option S → Prop
  | some (.hot n) => noTy (μ.rd (.hot n)) fun d => k (ρ.map (thaw n d)) ⟨μ.hot.set n (.ty ""), μ.n⟩
  | some (.c _) => k ρ μ
  | _ => False
def rFrz (i : Nat) (t : RS) : RS := fun N ρ μ => frzS ρ μ (fun ρ μ => t N ρ μ) (nth ρ i)
def rDrop (te : RE) : RS := fun N ρ μ => te ρ μ fun _ μ1 => N.nx ρ μ1
def rIfS (c : RT) (t u : RS) : RS := fun N ρ μ => c ρ μ fun b μ1 => br b (t N ρ μ1) (u N ρ μ1)
section
variable {X : Cx} {pu : Option Addr} {st : Stmt} {rest sa sb : List Stmt} {t u : RS} {e c : Expr} {te : RE} {tc : RT} {pos : Pos}
theorem dss_nil : DSs X pu [] rNext := fun as F μ H σ ρ N s rh h => WSs.of pss_nil (show Es pu as F H N.nx σ H from ⟨as, F, μ, ρ, .refl, s, rh, h⟩)
theorem dss_cons (h1 : DS X pu st t) (h2 : DSs X pu rest u) : DSs X pu (st :: rest) (rSeq t u) := by
  intro as F μ H σ ρ N s rh h
  refine WSs.of (pss_cons WS.ps WSs.pss) ((h1 as F μ H σ ρ _ s rh h).mono ⟨fun σ1 H1 ⟨as1, F1, μ1, ρ1, o1, s1, r1, q1⟩ => ?_, fun _ _ q => q, fun _ _ q => q, fun _ _ q => q⟩)
  exact (h2 as1 F1 μ1 H1 σ1 ρ1 N s1 r1 q1).mono (Ed.trans o1)
theorem dss_one (h1 : DS X pu st t) : DSs X pu [st] t := fun as F μ H σ ρ N s rh h => WSs.of (pss_one WS.ps) (h1 as F μ H σ ρ N s rh h)
theorem ds_pass : DS X pu (.Pass pos) rNext := fun as F μ H σ ρ N s rh h => WS.of ps_pass (show Es pu as F H N.nx σ H from ⟨as, F, μ, ρ, .refl, s, rh, h⟩)
theorem ds_break : DS X pu (.Break pos) rBrk := fun as F μ H σ ρ N s rh h => WS.of ps_break (show Es pu as F H N.bk σ H from ⟨as, F, μ, ρ, .refl, s, rh, h⟩)
theorem ds_cont : DS X pu (.Continue pos) rCont := fun as F μ H σ ρ N s rh h => WS.of ps_continue (show Es pu as F H N.ct σ H from ⟨as, F, μ, ρ, .refl, s, rh, h⟩)
theorem ds_set (i : Nat) {x : Str} {pos' : Pos} (hN : X.N.Nodup) (hi : X.N[i]? = some x) (hx : Loc X.env.scope x) (he : DE X pu e te) (hs : swapsWith e (some (.Name x pos')) pos.line X.env = pure false := by rfl) (hf : X.fn x = true ∨ X.env.scope.names.lookup x = some .local := by first | exact .inl rfl | exact .inr rfl) :
    DS X pu (.Assign [.Name x pos'] e pos) (rSet i te) := by
  intro as F μ H σ ρ N s rh h
  refine WS.of (ps_set hN hi hx WE.pe hs hf) ((he as F μ H σ ρ _ s rh h).mono fun v H1 ⟨as1, F1, μ1, d, o1, s1, r1, q1⟩ => ?_)
  exact ⟨as1, F1, μ1, _, o1, s1, (rh.mono o1.ge).set i r1, q1⟩
theorem noTy_some {d : D} {k : D → Prop} (h : noTy d k) : (∀ n, d ≠ .ty n) ∧ k d := by
  cases d with
  | ty _ => exact h.elim
  | _ => exact ⟨(fun _ e => nomatch e), h⟩
/-- an owned cell is frozen -/
theorem freezeI {pins : List (Addr × Obj)} {s : Shared} {as : List Addr} {F H : Hp} {μ : Mu} {σ : L2.St} (I : Inv X pins σ H s) (sta : Sta pu as F μ H) {n : Nat} {a : Addr} (ha : as[n]? = some a) (hn : ∀ z, μ.rd (.hot n) ≠ .ty z) :
    ∃ H' F', Inv X pins σ H' s ∧ Out pu as F H as F' H' ∧ Sta pu as F' ⟨μ.hot.set n (.ty ""), μ.n⟩ H' ∧ Rep F' (μ.rd (.hot n)) (.ref a) := by
  have hl : n < μ.hot.length := by rw [← sta.len]; exact (List.getElem?_eq_some_iff.mp ha).1
  have hc : μ.hot[n]? = some (μ.hot[n]) := by simp [hl]
  have e : μ.rd (.hot n) = μ.hot[n] := by simp [Mu.rd, hl]
  have q := sta.hot n a _ ha hc
  rw [e] at hn ⊢
  generalize μ.hot[n] = c at q hn hc
  cases c with
  | lst ds =>
    obtain ⟨hf, vs, h2, h3⟩ := q
    obtain ⟨s2, o2, g⟩ := sta.freezeTo (u := .lst vs) ha hc hf
    rw [upd_self h2] at s2 o2
    exact ⟨H, _, I, o2, s2, by simp only [Rep]; exact ⟨a, vs, rfl, upd_same, h3.mono g⟩⟩
  | dk ds =>
    obtain ⟨hf, vs, h2, h3⟩ := q
    obtain ⟨od, I2⟩ := I.lock h2 trivial
    obtain ⟨s2, o2, g⟩ := sta.freezeTo (u := .frz od (.dK vs)) ha hc hf
    exact ⟨_, _, I2, o2, s2, by simp only [Rep]; exact ⟨a, vs, od, rfl, upd_same, h3.mono g⟩⟩
  | dt ds =>
    obtain ⟨hf, vs, h2, h3⟩ := q
    obtain ⟨od, I2⟩ := I.lock h2 trivial
    obtain ⟨s2, o2, g⟩ := sta.freezeTo (u := .frz od (.dT vs)) ha hc hf
    exact ⟨_, _, I2, o2, s2, by simp only [Rep]; exact ⟨a, vs, od, rfl, upd_same, h3.mono g⟩⟩
  | obj C ds =>
    obtain ⟨hf, dx, vs, h2, h3⟩ := q
    obtain ⟨s2, o2, g⟩ := sta.freezeTo (u := .ins C dx vs) ha hc hf
    rw [upd_self h2] at s2 o2
    exact ⟨H, _, I, o2, s2, by simp only [Rep]; exact ⟨a, dx, vs, rfl, upd_same, h3.mono g⟩⟩
  | ty z => exact absurd rfl (hn z)
  | _ => exact q.elim
theorem RhoOk.thaw {as : List Addr} {F : Hp} {ρ : Rho} {σ : L2.St} (h : RhoOk pu as F ρ σ) {n : Nat} {a : Addr} (ha : as[n]? = some a) {d : D} (r : Rep F d (.ref a)) : RhoOk pu as F (ρ.map (thaw n d)) σ := by
  refine ⟨by simp [h.1], fun i d' e => ?_⟩
  rw [List.getElem?_map] at e
  cases e1 : ρ[i]? with
  | none => rw [e1] at e; cases e
  | some x =>
    rw [e1] at e
    simp only [Option.map_some, Option.some.injEq] at e
    cases x with
    | none => simp [DL.thaw] at e
    | some y =>
      obtain ⟨v, h1, h2⟩ := h.2 i y e1
      cases y with
      | c z => simp [DL.thaw] at e; subst e; exact ⟨v, h1, h2⟩
      | pur => simp [DL.thaw] at e; subst e; exact ⟨v, h1, h2⟩
      | hot m =>
        by_cases hm : m = n
        · subst hm
          simp [DL.thaw] at e
          subst e
          obtain ⟨b, hb, rfl⟩ := h2
          rw [ha] at hb
          cases hb
          exact ⟨_, h1, r⟩
        · simp [DL.thaw, hm] at e
          subst e
          exact ⟨v, h1, h2⟩
theorem dss_frz (i : Nat) {sts : List Stmt} (h : DSs X pu sts t) : DSs X pu sts (rFrz i t) := by
  intro as F μ H σ ρ N sta rh q
  unfold rFrz at q
  cases e : nth ρ i with
  | none => rw [e] at q; exact q.elim
  | some d =>
    rw [e] at q
    cases d with
    | c d => exact h as F μ H σ ρ N sta rh q
    | pur => exact q.elim
    | hot n =>
      intro pins s I
      obtain ⟨hn, q⟩ := noTy_some q
      obtain ⟨v, _, a, ha, rfl⟩ := rh.2 i _ (nth_get e)
      obtain ⟨H', F', I', o, s2, r⟩ := freezeI I sta ha hn
      exact thn (h as F' _ H' σ _ N s2 ((rh.mono o.ge).thaw ha r) q pins s I') fun _ _ z => (Ed.trans o).sp z
theorem ds_if (hc : DT X pu c tc) (ha : DSs X pu sa t) (hb : DSs X pu sb u) : DS X pu (.If c sa sb pos) (rIfS tc t u) := by
  intro as F μ H σ ρ N s rh h
  refine WS.of (ps_if WT.pt WSs.pss WSs.pss) ((hc as F μ H σ ρ _ s rh h).mono fun b H1 ⟨as1, F1, μ1, o1, s1, q1⟩ => ?_)
  cases b with
  | true => exact iteT ((ha as1 F1 μ1 H1 σ ρ N s1 (rh.mono o1.ge) (q1.1 rfl)).mono (Ed.trans o1))
  | false => exact iteF ((hb as1 F1 μ1 H1 σ ρ N s1 (rh.mono o1.ge) (q1.2 rfl)).mono (Ed.trans o1))
theorem ds_expr (he : DE X pu e te) (hs : swapsWith e none pos.line X.env = pure false := by rfl) : DS X pu (.Expr e pos) (rDrop te) := by
  intro as F μ H σ ρ N s rh h
  refine WS.of (ps_expr WE.pe hs) ((he as F μ H σ ρ _ s rh h).mono fun v H1 ⟨as1, F1, μ1, d, o1, s1, r1, q1⟩ => ?_)
  exact ⟨as1, F1, μ1, ρ, o1, s1, rh.mono o1.ge, q1⟩
theorem ds_ret (he : DE X pu e te) : DS X pu (.Return (some e) pos) (rRet te) := by
  intro as F μ H σ ρ N s rh h pins sh I
  refine wpAny_Return_some (thn ((he as F μ H σ ρ _ s rh h) pins sh I) fun v s1 ⟨x, H1, I1, r1, as1, F1, μ1, d, o1, st1, rd, q1⟩ => ?_)
  obtain ⟨hn, q2⟩ := noTy_some q1
  cases d with
  | c d => exact ⟨x, σ, H1, I1, r1, as1, F1, _, d, o1, st1, rd, q2⟩
  | pur => exact absurd rfl (hn "")
  | hot n =>
    obtain ⟨a, ha, rfl⟩ := rd
    obtain ⟨H', F', I', o2, s2, r⟩ := freezeI I1 st1 ha hn
    exact ⟨_, σ, H', I', r1, as1, F', _, _, o1.trans o2, s2, r, q2⟩
end
end DL
/-! ## DL11 -/
namespace DL
open PySem PySem.Spec PyProof.Rows L2
/-! ### targets -/
abbrev RG := D → Rho → (Rho → Prop) → Prop
abbrev RGs := List D → Rho → (Rho → Prop) → Prop
def WG (X : Cx) (tg : Expr) : TG := fun v σ H Q => ∀ (pins : List (Addr × Obj)) (s : Shared) (u : Value), Inv X pins σ H s → RelV v u → wpAny (model X.prog X.w) X.A (assign tg X.env u) (fun _ s' => ∃ σ' H', Inv X pins σ' H' s' ∧ Q σ' H') X.xe s
def WGs (X : Cx) (ts : List Expr) : TGs := fun vs σ H Q => ∀ (pins : List (Addr × Obj)) (s : Shared) (us : List Value), Inv X pins σ H s → Vals vs us → wpAny (model X.prog X.w) X.A (assignInOrder ((assignEach ts X.env).map (·.2)) us) (fun _ s' => ∃ σ' H', Inv X pins σ' H' s' ∧ Q σ' H') X.xe s
section
variable {X : Cx} {tg : Expr} {ts : List Expr}
theorem WG.pg : PG X tg (WG X tg) := ⟨fun pins s _ _ _ u _ I r h => h pins s u I r⟩
theorem WGs.pgs : PGs X ts (WGs X ts) := ⟨fun pins s _ _ _ us _ I r h => h pins s us I r⟩
theorem WG.of {t : TG} {v : V} {σ : L2.St} {H : Hp} {Q : L2.St → Hp → Prop} (h : PG X tg t) (q : t v σ H Q) : WG X tg v σ H Q := fun pins s u I r => h.run pins s σ H v u Q I r q
theorem WGs.of {t : TGs} {vs : List V} {σ : L2.St} {H : Hp} {Q : L2.St → Hp → Prop} (h : PGs X ts t) (q : t vs σ H Q) : WGs X ts vs σ H Q := fun pins s us I r => h.run pins s σ H vs us Q I r q
theorem WG.mono {v : V} {σ : L2.St} {H : Hp} {Q Q' : L2.St → Hp → Prop} (h : WG X tg v σ H Q) (k : ∀ σ' H', Q σ' H' → Q' σ' H') : WG X tg v σ H Q' := fun pins s u I r => thn (h pins s u I r) fun _ _ ⟨a, b, c, d⟩ => ⟨a, b, c, k _ _ d⟩
theorem WGs.mono {vs : List V} {σ : L2.St} {H : Hp} {Q Q' : L2.St → Hp → Prop} (h : WGs X ts vs σ H Q) (k : ∀ σ' H', Q σ' H' → Q' σ' H') : WGs X ts vs σ H Q' := fun pins s u I r => thn (h pins s u I r) fun _ _ ⟨a, b, c, d⟩ => ⟨a, b, c, k _ _ d⟩
end
/-- the slots behind: those at is may differ -/
def Qg (pu : Option Addr) (as : List Addr) (F H : Hp) (σ : L2.St) (is : List Nat) (k : Rho → Prop) : L2.St → Hp → Prop := fun σ' H' => H' = H ∧ (∃ ρ', RhoOk pu as F ρ' σ' ∧ k ρ') ∧ σ'.length = σ.length ∧ ∀ j, j ∉ is → σ'[j]? = σ[j]?
def DG (X : Cx) (pu : Option Addr) (tg : Expr) (is : List Nat) (g : RG) : Prop := ∀ as F μ H σ ρ d v k, Sta pu as F μ H → RhoOk pu as F ρ σ → Rep F d v → g d ρ k → WG X tg v σ H (Qg pu as F H σ is k)
def DGs (X : Cx) (pu : Option Addr) (ts : List Expr) (is : List Nat) (g : RGs) : Prop := ∀ as F μ H σ ρ ds vs k, Sta pu as F μ H → RhoOk pu as F ρ σ → Reps F ds vs → g ds ρ k → WGs X ts vs σ H (Qg pu as F H σ is k)
def gNm (i : Nat) : RG := fun d ρ k => k (ρ.set i (some (.c d)))
def gNl : RGs := fun ds ρ k => match ds with
  | [] => k ρ
  | _ => False
def gCs (g : RG) (gs : RGs) : RGs := fun ds ρ k => match ds with
  | d :: r => g d ρ fun ρ' => gs r ρ' k
  | _ => False
/-- a tuple or a list of that length -/
def gTp (n : Nat) (gs : RGs) : RG := fun d ρ k => match d with
  | .tup ds => ds.length = n ∧ gs ds ρ k
  | _ => False
def gLs (n : Nat) (gs : RGs) : RG := fun d ρ k => match d with
  | .lst ds => ds.length = n ∧ gs ds ρ k
  | _ => False
section
variable {X : Cx} {pu : Option Addr} {pos : Pos}
theorem dg_name (i : Nat) {x : Str} (hN : X.N.Nodup) (hi : X.N[i]? = some x) (hx : Loc X.env.scope x) (hf : X.fn x = true ∨ X.env.scope.names.lookup x = some .local := by first | exact .inl rfl | exact .inr rfl) : DG X pu (.Name x pos) [i] (gNm i) := by
  intro as F μ H σ ρ d v k st rh r h
  refine WG.of (pg_name hN hi hx hf) ⟨rfl, ⟨_, rh.set i (d := .c d) r, h⟩, by simp, fun j hj => ?_⟩
  exact List.getElem?_set_ne (by simpa using fun e => hj (by simp [e]))
theorem dgs_nil : DGs X pu [] [] gNl := by
  intro as F μ H σ ρ ds vs k st rh r h
  cases ds with
  | cons _ _ => exact h.elim
  | nil =>
    simp only [Reps] at r
    subst r
    exact WGs.of pgs_nil ⟨rfl, rfl, ⟨ρ, rh, h⟩, rfl, fun _ _ => rfl⟩
theorem dgs_cons {e : Expr} {es : List Expr} {is js : List Nat} {g : RG} {gs : RGs} (h1 : DG X pu e is g) (h2 : DGs X pu es js gs) (hs : (assignEach (e :: es) X.env).map (·.2) = assign e X.env :: (assignEach es X.env).map (·.2) := by rfl) : DGs X pu (e :: es) (is ++ js) (gCs g gs) := by
  intro as F μ H σ ρ ds vs k st rh r h
  cases ds with
  | nil => exact h.elim
  | cons d ds =>
    simp only [Reps] at r
    obtain ⟨v, us, rfl, r1, r2⟩ := r
    refine WGs.of (pgs_cons WG.pg WGs.pgs hs) ⟨v, us, rfl, (h1 as F μ H σ ρ d v _ st rh r1 h).mono ?_⟩
    rintro σ1 H1 ⟨e0, ⟨ρ1, rh1, q1⟩, l1, e1⟩
    rw [e0]
    refine (h2 as F μ H σ1 ρ1 ds us k st rh1 r2 q1).mono ?_
    rintro σ2 H2 ⟨e00, q2, l2, e2⟩
    exact ⟨e00, q2, l2.trans l1, fun j hj => (e2 j fun z => hj (List.mem_append_right _ z)).trans (e1 j fun z => hj (List.mem_append_left _ z))⟩
theorem dg_tup {es : List Expr} {kk n : Nat} {is : List Nat} {gs : RGs} (hc : X.calm = true) (h : DGs X pu es is gs) (hn : (assignEach es X.env).length = n := by rfl) (hst : (assignEach es X.env).findIdx? (·.1) = none := by rfl) : DG X pu (.Tuple es kk pos) is (gTp n gs) := by
  intro as F μ H σ ρ d v k st rh r q
  cases d with
  | tup ds =>
    obtain ⟨hl, q⟩ := q
    simp only [Rep] at r
    obtain ⟨a, vs, rfl, h1, h2⟩ := r
    exact WG.of (pg_tup hc WGs.pgs hn hst) ⟨a, vs, rfl, SqT.of (st.le _ _ h1), h2.length.trans hl, h as F μ H σ ρ ds vs k st rh h2 q⟩
  | _ => exact q.elim
theorem dg_lst {es : List Expr} {kk n : Nat} {is : List Nat} {gs : RGs} (hc : X.calm = true) (h : DGs X pu es is gs) (hn : (assignEach es X.env).length = n := by rfl) (hst : (assignEach es X.env).findIdx? (·.1) = none := by rfl) : DG X pu (.Tuple es kk pos) is (gLs n gs) := by
  intro as F μ H σ ρ d v k st rh r q
  cases d with
  | lst ds =>
    obtain ⟨hl, q⟩ := q
    simp only [Rep] at r
    obtain ⟨a, vs, rfl, h1, h2⟩ := r
    exact WG.of (pg_unl hc WGs.pgs hn hst) ⟨a, vs, rfl, SqL.of (st.le _ _ h1), h2.length.trans hl, h as F μ H σ ρ ds vs k st rh h2 q⟩
  | _ => exact q.elim
/-- target = e, e plain data -/
def rAsg (te : RE) (g : RG) : RS := fun N ρ μ => te ρ μ fun d μ1 => coldS d fun d => g d ρ fun ρ' => N.nx ρ' μ1
theorem ds_asg {tg e : Expr} {te : RE} {is : List Nat} {g : RG} (he : DE X pu e te) (hg : DG X pu tg is g) (hs : swapsWithSole [tg] e pos.line X.env = pure false := by rfl) (hw : swappedStores [tg] e X.env = pure none := by rfl)
    (h1 : (assignEach [tg] X.env).map (·.2) = [assign tg X.env] := by rfl) : DS X pu (.Assign [tg] e pos) (rAsg te g) := by
  intro as F μ H σ ρ N s rh h
  refine WS.of (ps_asg WE.pe WG.pg hs hw h1) ((he as F μ H σ ρ _ s rh h).mono fun v H1 ⟨as1, F1, μ1, d, o1, s1, r1, q1⟩ => ?_)
  obtain ⟨d, rfl, q1⟩ := coldS_some q1
  refine (hg as1 F1 μ1 H1 σ ρ d v _ s1 (rh.mono o1.ge) r1 q1).mono ?_
  rintro σ2 H2 ⟨e2, ⟨ρ2, rh2, q2⟩, _, _⟩
  rw [e2]
  exact ⟨as1, F1, μ1, ρ2, o1, s1, rh2, q2⟩
/-- a, b = x, y (plain local names, stored from the right) -/
def rPar (i j : Nat) (ta tb : RE) : RS := fun N ρ μ => ta ρ μ fun x μ1 => tb ρ μ1 fun y μ2 => N.nx ((ρ.set i (some x)).set j (some y)) μ2
theorem ds_par (i j : Nat) {x y : Str} {a b : Expr} {ta tb : RE} {px py pt : Pos} {kt k2 pt2} (hc : X.calm = true) (hN : X.N.Nodup) (hi : X.N[i]? = some x) (hj : X.N[j]? = some y) (hij : i ≠ j) (hx : X.env.scope.names.lookup x = some .local) (hy : X.env.scope.names.lookup y = some .local) (ha : DE X pu a ta) (hb : DE X pu b tb)
    (hw : swappedStores [.Tuple [.Name x px, .Name y py] kt pt] (.Tuple [a, b] k2 pt2) X.env = pure (some [x, y]))
    (hs : swapsWithSole [.Tuple [.Name x px, .Name y py] kt pt] (.Tuple [a, b] k2 pt2) pos.line X.env = pure false := by rfl)
    (h1 : starEach [a, b] X.env = (false, eval a X.env) :: starEach [b] X.env := by rfl) (h2 : starEach [b] X.env = (false, eval b X.env) :: starEach [] X.env := by rfl) :
    DS X pu (.Assign [.Tuple [.Name x px, .Name y py] kt pt] (.Tuple [a, b] k2 pt2) pos) (rPar i j ta tb) := by
  intro as F μ H σ ρ N s rh h
  refine WS.of (ps_par hc hN hi hj hij hx hy (pa_cons WE.pe (pa_cons WE.pe pa_nil h2) h1) hw hs) ?_
  refine (ha as F μ H σ ρ _ s rh h).mono fun v H1 ⟨as1, F1, μ1, d, o1, s1, r1, q1⟩ => ?_
  refine (hb as1 F1 μ1 H1 σ ρ _ s1 (rh.mono o1.ge) q1).mono fun w H2 ⟨as2, F2, μ2, d2, o2, s2, r2, q2⟩ => ?_
  exact ⟨v, w, rfl, as2, F2, μ2, _, o1.trans o2, s2, (((rh.mono o1.ge).mono o2.ge).set i (r1.mono o2.ge)).set j r2, q2⟩
/-- x += e, ints -/
def rAug (i : Nat) (f : Int → Int → Int) (te : RE) : RS := fun N ρ μ => sel (nth ρ i) fun x => isI (μ.rd x) fun m => te ρ μ fun d μ1 => isI (μ1.rd d) fun n => N.nx (ρ.set i (some (.c (.int (f m n))))) μ1
theorem ds_aug (i : Nat) {x : Str} {e : Expr} {te : RE} {op : Operator} {f : Int → Int → Int} {pos' : Pos} (hN : X.N.Nodup) (hi : X.N[i]? = some x) (hx : Loc X.env.scope x) (ho : PIp X op (ipI f)) (he : DE X pu e te) (hf : X.fn x = true ∨ X.env.scope.names.lookup x = some .local := by first | exact .inl rfl | exact .inr rfl) :
    DS X pu (.AugAssign (.Name x pos') op e pos) (rAug i f te) := by
  intro as F μ H σ ρ N s rh h
  obtain ⟨d, e1, h⟩ := sel_some h
  obtain ⟨m, e2, h⟩ := isI_some h
  obtain ⟨v, hv, r⟩ := rh.2 i d (nth_get e1)
  have rm := s.rd r
  rw [e2] at rm
  refine WS.of (ps_aug hN hi hx WE.pe ho hf) ⟨v, hv, (he as F μ H σ ρ _ s rh h).mono fun w H1 ⟨as1, F1, μ1, d1, o1, s1, r1, q1⟩ => ?_⟩
  obtain ⟨n, e3, q⟩ := isI_some q1
  have rn := s1.rd r1
  rw [e3] at rn
  exact ⟨m, n, rm, rn, as1, F1, μ1, _, o1, s1, (rh.mono o1.ge).set i (d := .c (.int (f m n))) (rep_int (F := F1)), q⟩

/-! ### for, while -/
/-- the body, item by item -/
def runF (body : D → RS) : List D → RS
  | [], N, ρ, μ => N.nx ρ μ
  | d :: ds, N, ρ, μ => body d { nx := runF body ds N, ct := runF body ds N, bk := N.nx, rt := N.rt } ρ μ
def rFor (ri : RI) (g : RG) (tb : RS) : RS := fun N ρ μ => ri ρ μ fun ds μ1 => runF (fun d N ρ μ => g d ρ fun ρ' => tb N ρ' μ) ds N ρ μ1
variable {tg iter : Expr} {body : List Stmt} {ri : RI} {g : RG} {tb : RS} {is : List Nat}
theorem ds_for (hp : PassesOwn (model X.prog X.w) X.A X.env X.xe) (hc : X.calm = true) (hi : DI X pu tg iter ri) (hg : DG X pu tg is g) (hb : DSs X pu body tb) (hs : ∀ x, foldedSetIterable iter X.env x = pure x := by intro _; rfl) : DS X pu (.For tg iter body [] pos) (rFor ri g tb) := by
  intro as F μ H σ ρ N s rh h
  refine WS.of (ps_for hp hc WI.pi WG.pg WSs.pss hs) ((hi as F μ H σ ρ _ s rh h).mono fun J H1 ⟨as1, F1, μ1, ds, o1, s1, y, q1⟩ => ?_)
  refine ⟨fun i m σ2 H2 => m = ds.length - i ∧ i ≤ ds.length ∧ ∃ as2 F2 μ2 ρ2, Out pu as F H as2 F2 H2 ∧ Same F1 F2 ∧ Sta pu as2 F2 μ2 H2 ∧ RhoOk pu as2 F2 ρ2 σ2 ∧ runF (fun d N ρ μ => g d ρ fun ρ' => tb N ρ' μ) (ds.drop i) N ρ2 μ2,
    ⟨ds.length, by simp, Nat.zero_le _, as1, F1, μ1, ρ, o1, Same.refl _, s1, rh.mono o1.ge, by simpa using q1⟩, ?_⟩
  rintro i m σ2 H2 ⟨rfl, hi2, as2, F2, μ2, ρ2, o2, g2, s2, rh2, q2⟩
  obtain ⟨y1, y2⟩ := y as2 F2 μ2 H2 g2 s2 i
  by_cases hlt : i < ds.length
  · right
    have e : ds[i]? = some ds[i] := by simp [hlt]
    obtain ⟨go, yl⟩ := y1 _ e
    rw [List.drop_eq_getElem_cons hlt] at q2
    refine ⟨go, fun σ3 H3 => ∃ as3 F3 μ3 ρ3, Out pu as F H as3 F3 H3 ∧ Same F1 F3 ∧ Sta pu as3 F3 μ3 H3 ∧ RhoOk pu as3 F3 ρ3 σ3 ∧ runF (fun d N ρ μ => g d ρ fun ρ' => tb N ρ' μ) (ds.drop (i + 1)) N ρ3 μ3, fun σ3 H3 ⟨as3, F3, μ3, ρ3, o3, g3, s3, rh3, q3⟩ => ⟨ds.length - (i + 1), by omega, rfl, hlt, as3, F3, μ3, ρ3, o3, g3, s3, rh3, q3⟩, fun x H3 yx => ?_⟩
    obtain ⟨F3, o3, s3, r3⟩ := yl x H3 yx
    refine (hg as2 F3 μ2 H3 σ2 ρ2 ds[i] x _ s3 (rh2.mono o3.ge) r3 q2).mono ?_
    rintro σ4 H4 ⟨e4, ⟨ρ4, rh4, q4⟩, _, _⟩
    rw [e4]
    refine (hb as2 F3 μ2 H3 σ4 ρ4 _ s3 rh4 q4).mono ⟨?_, ?_, ?_, ?_⟩
    · rintro σ5 H5 ⟨as5, F5, μ5, ρ5, o5, s5, rh5, q5⟩
      exact ⟨as5, F5, μ5, ρ5, (o2.trans o3).trans o5, (g2.trans o3.ge.ext).trans o5.ge.ext, s5, rh5, q5⟩
    · rintro v H5 q5
      exact q5.trans (o2.trans o3)
    · rintro σ5 H5 q5
      exact q5.trans (o2.trans o3)
    · rintro σ5 H5 ⟨as5, F5, μ5, ρ5, o5, s5, rh5, q5⟩
      exact ⟨as5, F5, μ5, ρ5, (o2.trans o3).trans o5, (g2.trans o3.ge.ext).trans o5.ge.ext, s5, rh5, q5⟩
  · have hi3 : i = ds.length := by omega
    left
    refine ⟨y2 (by simp [hi3]), ?_⟩
    rw [hi3, List.drop_length] at q2
    exact ⟨as2, F2, μ2, ρ2, o2, s2, rh2, q2⟩
/-- I: the invariant with its measure -/
def rWhile (tc : RT) (tb : RS) : RS := fun N ρ μ => ∃ I : Nat → Rho → Mu → Prop, (∃ m, I m ρ μ) ∧ ∀ m ρ μ, I m ρ μ → tc ρ μ fun b μ1 => br b (tb { nx := fun ρ' μ' => ∃ m', m' < m ∧ I m' ρ' μ', ct := fun ρ' μ' => ∃ m', m' < m ∧ I m' ρ' μ', bk := N.nx, rt := N.rt } ρ μ1) (N.nx ρ μ1)
theorem ds_while {c : Expr} {tc : RT} (hp : PassesOwn (model X.prog X.w) X.A X.env X.xe) (hc : DT X pu c tc) (hb : DSs X pu body tb) : DS X pu (.While c body [] pos) (rWhile tc tb) := by
  intro as F μ H σ ρ N s rh ⟨I, ⟨m0, i0⟩, step⟩
  refine WS.of (ps_while hp WT.pt WSs.pss) ⟨fun m σ2 H2 => ∃ as2 F2 μ2 ρ2, Out pu as F H as2 F2 H2 ∧ Sta pu as2 F2 μ2 H2 ∧ RhoOk pu as2 F2 ρ2 σ2 ∧ I m ρ2 μ2, ⟨m0, as, F, μ, ρ, .refl, s, rh, i0⟩, ?_⟩
  rintro m σ2 H2 ⟨as2, F2, μ2, ρ2, o2, s2, rh2, i2⟩
  refine (hc as2 F2 μ2 H2 σ2 ρ2 _ s2 rh2 (step m ρ2 μ2 i2)).mono fun b H3 ⟨as3, F3, μ3, o3, s3, q3⟩ => ?_
  cases b with
  | true =>
    refine iteT ⟨fun σ4 H4 => ∃ as4 F4 μ4 ρ4, Out pu as F H as4 F4 H4 ∧ Sta pu as4 F4 μ4 H4 ∧ RhoOk pu as4 F4 ρ4 σ4 ∧ ∃ m', m' < m ∧ I m' ρ4 μ4, fun σ4 H4 ⟨as4, F4, μ4, ρ4, o4, s4, rh4, m', hm, i4⟩ => ⟨m', hm, as4, F4, μ4, ρ4, o4, s4, rh4, i4⟩, ?_⟩
    refine (hb as3 F3 μ3 H3 σ2 ρ2 _ s3 (rh2.mono o3.ge) (q3.1 rfl)).mono ⟨?_, ?_, ?_, ?_⟩
    · rintro σ5 H5 ⟨as5, F5, μ5, ρ5, o5, s5, rh5, q5⟩
      exact ⟨as5, F5, μ5, ρ5, (o2.trans o3).trans o5, s5, rh5, q5⟩
    · rintro v H5 q5
      exact q5.trans (o2.trans o3)
    · rintro σ5 H5 q5
      exact q5.trans (o2.trans o3)
    · rintro σ5 H5 ⟨as5, F5, μ5, ρ5, o5, s5, rh5, q5⟩
      exact ⟨as5, F5, μ5, ρ5, (o2.trans o3).trans o5, s5, rh5, q5⟩
  | false => exact iteF ⟨as3, F3, μ3, ρ2, o2.trans o3, s3, rh2.mono o3.ge, q3.2 rfl⟩
end
end DL
/-! ## DL12 -/
namespace DL
open PySem PySem.Spec PyProof.Rows L2
/-! ### an object that is still being made -/
structure Apart (pu : Option Addr) (as : List Addr) (F : Hp) (D : Addr) : Prop where
  f : F D = none
  a : D ∉ as
  p : pu ≠ some D
def era (H : Hp) (D : Addr) : Hp := fun b => if b = D then none else H b
theorem era_same {H : Hp} {D : Addr} : era H D D = none := by simp [era]
theorem era_ne {H : Hp} {D b : Addr} (h : b ≠ D) : era H D b = H b := by simp [era, h]
theorem upd_era {H : Hp} {D : Addr} {o : HO} (h : H D = some o) : upd (era H D) D o = H := by
  funext b
  by_cases e : b = D
  · subst e; rw [upd_same, h]
  · rw [upd_ne e, era_ne e]
section
variable {pu : Option Addr} {as as' as2 : List Addr} {F F' F2 H H' H2 : Hp} {μ : Mu} {D : Addr} {o : HO}
theorem Sta.swap (st : Sta pu as F μ H) (ap : Apart pu as F D) (h : ∀ b, b ≠ D → H' b = H b) : Sta pu as F μ H' := by
  refine ⟨fun b u e => ?_, st.len, st.nd, fun n a c h1 h2 => ?_, fun a ha => ?_, fun q e => ?_⟩
  · rw [h b (ne_of_none e ap.f)]; exact st.le b u e
  · have hm : a ∈ as := List.mem_of_getElem? h1
    refine (st.hot n a c h1 h2).mono (Same.refl _) ?_ (h a fun e => ap.a (e ▸ hm))
    cases e : F a with
    | none => exact .inl rfl
    | some x => right; intro _ z; cases z
  · rw [h a fun e => ap.a (e ▸ ha)]; exact st.live a ha
  · obtain ⟨h1, a, b, c, d, h2, h3⟩ := st.pur q e
    exact ⟨h1, a, b, c, d, by rw [h q fun z => ap.p (z ▸ e)]; exact h2, h3⟩
theorem Out.swap (x : Out pu as F H as' F' H') (hD : H D = none) (h : ∀ b, b ≠ D → H2 b = H' b) : Out pu as F H as' F' H2 := by
  refine ⟨x.ge, fun a u e h1 h2 => ?_, x.new, x.dom, fun a e => ?_⟩
  · rw [h a (ne_of_none e hD)]; exact x.keep a u e h1 h2
  · have hne : a ≠ D := fun z => e (z ▸ hD)
    rw [h a hne]; exact x.alive a e
theorem Apart.out (ap : Apart pu as F D) (x : Out pu as F H as' F' H') (hD : H D ≠ none) : Apart pu as' F' D := by
  refine ⟨?_, fun h => ?_, ap.p⟩
  · cases e : F' D with
    | none => rfl
    | some u =>
      rcases x.new D (by rw [e]; simp) with z | z | z
      · exact absurd ap.f z
      · exact absurd z hD
      · exact absurd z ap.a
  · rcases x.dom D h with z | z
    · exact ap.a z
    · exact hD z
theorem Sta.apart (st : Sta pu as F μ H) (hD : H D = none) : Apart pu as F D :=
  ⟨st.le.free hD, fun h => (st.live D h).1 hD, fun e => by
    obtain ⟨_, _, _, _, _, h2, _⟩ := st.pur D e
    rw [hD] at h2; cases h2⟩
theorem Out.none (x : Out pu as F H as' F' H') (h : H' D = Option.none) : H D = Option.none := by
  cases e : H D with
  | none => rfl
  | some u => exact absurd h (x.alive D (by rw [e]; simp))
end
/-! ### tests of a clause -/
def WTs (X : Cx) (ifs : List Expr) : TT := fun σ H Q => ∀ (pins : List (Addr × Obj)) (s : Shared), Inv X pins σ H s →
  wpAny (model X.prog X.w) X.A (forIn ifs true fun c r => if r = true then do let ok ← isTrue c X.env (eval c X.env); pure (ForInStep.yield ok) else pure (ForInStep.yield r)) (TP X pins σ Q) X.xe s
theorem WTs.of {X : Cx} {ifs : List Expr} {t : TT} {σ : L2.St} {H : Hp} {Q : Bool → Hp → Prop} (h : PTs X ifs t) (q : t σ H Q) : WTs X ifs σ H Q := fun pins s I => h.run pins s σ H Q I q
theorem WTs.mono {X : Cx} {ifs : List Expr} {σ : L2.St} {H : Hp} {Q Q' : Bool → Hp → Prop} (h : WTs X ifs σ H Q) (k : ∀ b H', Q b H' → Q' b H') : WTs X ifs σ H Q' := fun pins s I => thn (h pins s I) fun _ _ ⟨H', I', q⟩ => ⟨H', I', k _ H' q⟩
def DTs (X : Cx) (pu : Option Addr) (ifs : List Expr) (t : RT) : Prop := ∀ as F μ H σ ρ k, Sta pu as F μ H → RhoOk pu as F ρ σ → t ρ μ k → WTs X ifs σ H (Qb pu as F H k)
def rYes : RT := fun _ μ k => k true μ
theorem dts_nil {X : Cx} {pu : Option Addr} : DTs X pu [] rYes := fun as F μ H σ ρ k s rh h => WTs.of pts_nil (show Qb pu as F H k true H from ⟨as, F, μ, .refl, s, h⟩)
theorem dts_one {X : Cx} {pu : Option Addr} {c : Expr} {t : RT} (h : DT X pu c t) : DTs X pu [c] t := fun as F μ H σ ρ k s rh q => WTs.of (pts_one WT.pt) (h as F μ H σ ρ k s rh q)
/-! ### list comprehensions, dict comprehensions -/
def wipeR (ρ : Rho) : List Nat → Rho
  | [] => ρ
  | v :: vs => (wipeR ρ vs).set v none
theorem wipeR_length (ρ : Rho) : ∀ vs : List Nat, (wipeR ρ vs).length = ρ.length
  | [] => rfl
  | v :: vs => by unfold wipeR; rw [List.length_set, wipeR_length ρ vs]
theorem wipeR_some {ρ : Rho} {i : Nat} {x : S} : ∀ {vs : List Nat}, (wipeR ρ vs)[i]? = some (some x) → ρ[i]? = some (some x) ∧ i ∉ vs
  | [], h => ⟨h, by simp⟩
  | v :: vs, h => by
    unfold wipeR at h
    by_cases hi : v = i
    · subst hi
      by_cases hv : v < (wipeR ρ vs).length
      · rw [List.getElem?_set_self hv] at h; cases h
      · rw [List.getElem?_eq_none (by simpa using hv)] at h; cases h
    · rw [List.getElem?_set_ne hi] at h
      obtain ⟨h1, h2⟩ := wipeR_some h
      exact ⟨h1, by simp only [List.mem_cons, not_or]; exact ⟨fun e => hi e.symm, h2⟩⟩
theorem wipe_out {σ : L2.St} {i : Nat} : ∀ {vs : List Nat}, i ∉ vs → (wipe σ vs)[i]? = σ[i]?
  | [], _ => rfl
  | v :: vs, h => by
    simp only [List.mem_cons, not_or] at h
    unfold wipe
    rw [List.getElem?_set_ne (Ne.symm h.1)]
    exact wipe_out h.2
theorem RhoOk.wipe {pu : Option Addr} {as : List Addr} {F : Hp} {ρ : Rho} {σ : L2.St} (h : RhoOk pu as F ρ σ) (vs : List Nat) : RhoOk pu as F (wipeR ρ vs) (wipe σ vs) := by
  refine ⟨by rw [wipeR_length, wipe_length]; exact h.1, fun i d e => ?_⟩
  obtain ⟨e1, e2⟩ := wipeR_some e
  obtain ⟨v, h1, h2⟩ := h.2 i d e1
  exact ⟨v, by rw [wipe_out e2]; exact h1, h2⟩
theorem wipe_eq {σ σ' : L2.St} {vs : List Nat} (hl : σ'.length = (wipe σ vs).length) (h : ∀ j, j ∉ vs → σ'[j]? = (wipe σ vs)[j]?) : wipe σ' vs = wipe σ vs := by
  refine List.ext_getElem? fun j => ?_
  by_cases hj : j ∈ vs
  · have key : ∀ (τ : L2.St) (ws : List Nat), j ∈ ws → j < τ.length → (wipe τ ws)[j]? = some none := by
      intro τ ws
      induction ws with
      | nil => intro h; simp at h
      | cons w ws ih =>
        intro h hl
        unfold L2.wipe
        by_cases e : w = j
        · subst e
          rw [List.getElem?_set_self (by rw [wipe_length]; exact hl)]
        · rw [List.getElem?_set_ne e]
          exact ih ((List.mem_cons.mp h).resolve_left fun z => e z.symm) hl
    by_cases hl2 : j < σ.length
    · rw [key σ vs hj hl2, key σ' vs hj (by rw [hl, wipe_length]; exact hl2)]
    · rw [List.getElem?_eq_none (by rw [wipe_length, hl, wipe_length]; omega), List.getElem?_eq_none (by rw [wipe_length]; omega)]
  · rw [wipe_out hj, h j hj]
/-- item by item: none where a test says no -/
def runC {α : Type} (body : D → (Option α → Mu → Prop) → Mu → Prop) : List D → List α → Mu → (List α → Mu → Prop) → Prop
  | [], acc, μ, k => k acc μ
  | d :: ds, acc, μ, k => body d (fun r μ' => runC body ds (acc ++ r.toList) μ' k) μ
def rLC (is : List Nat) (ri : RI) (g : RG) (tt : RT) (te : RE) : RE := fun ρ μ k => ri ρ μ fun ds μ1 => ds.length ≤ lim ∧
  runC (fun d K μ => g d (wipeR ρ is) fun ρ2 => tt ρ2 μ fun b μ2 => br b (te ρ2 μ2 fun x μ3 => coldS x fun x => K (some x) μ3) (K none μ2)) ds [] μ1 fun acc μ' => k (.c (.lst acc)) μ'
abbrev blk (X : Cx) (scope : Scope) (s : Shared) (H : Hp) (C : Addr) (cl : List (Str × Addr)) (fp : List Addr) : Cx := X.blk s H scope (compEnvC scope cl C X.env) fp
section
variable {X : Cx} {pu : Option Addr} {elt tg iter : Expr} {ifs : List Expr} {scope : Scope} {own : List (Str × Nat)} {pos : Pos} {is : List Nat} {ri : RI} {g : RG} {tt : RT} {te : RE}
def gU (X : Cx) (scope : Scope) (tg : Expr) : TG := fun v σ H Q => ∀ s H0 C cl fp, WG (blk X scope s H0 C cl fp) tg v σ H Q
def tU (X : Cx) (scope : Scope) (ifs : List Expr) : TT := fun σ H Q => ∀ s H0 C cl fp, WTs (blk X scope s H0 C cl fp) ifs σ H Q
def eU (X : Cx) (scope : Scope) (e : Expr) : TE := fun σ H Q => ∀ s H0 C cl fp, WE (blk X scope s H0 C cl fp) e σ H Q
theorem gU.pg (s : Shared) (H : Hp) (C : Addr) (cl : List (Str × Addr)) (fp : List Addr) : PG (X.blk s H scope (compEnvC scope cl C X.env) fp) tg (gU X scope tg) := ⟨fun pins s' _ _ _ u _ I r q => q s H C cl fp pins s' u I r⟩
theorem tU.pt (s : Shared) (H : Hp) (C : Addr) (cl : List (Str × Addr)) (fp : List Addr) : PTs (X.blk s H scope (compEnvC scope cl C X.env) fp) ifs (tU X scope ifs) := ⟨fun pins s' _ _ _ I q => q s H C cl fp pins s' I⟩
theorem eU.pe (s : Shared) (H : Hp) (C : Addr) (cl : List (Str × Addr)) (fp : List Addr) : PE (X.blk s H scope (compEnvC scope cl C X.env) fp) elt (eU X scope elt) := ⟨fun pins s' _ _ _ I q => q s H C cl fp pins s' I⟩
theorem lc_turns {as : List Addr} {F H : Hp} {μ : Mu} {σ : L2.St} {ρ : Rho} {Q : V → Hp → Prop} {kk : List D → Mu → Prop} (s0 : Sta pu as F μ H) (rh : RhoOk pu as F ρ σ) (hi : DI X pu tg iter ri) (hsub : ∀ i ∈ is, i ∈ own.map (·.2))
    (hg : ∀ s H C cl fp, DG (blk X scope s H C cl fp) pu tg is g) (ht : ∀ s H C cl fp, DTs (blk X scope s H C cl fp) pu ifs tt) (he : ∀ s H C cl fp, DE (blk X scope s H C cl fp) pu elt te)
    (h : ri ρ μ fun ds μ1 => ds.length ≤ lim ∧ runC (fun d K μ => g d (wipeR ρ (own.map (·.2))) fun ρ2 => tt ρ2 μ fun b μ2 => br b (te ρ2 μ2 fun x μ3 => coldS x fun x => K (some x) μ3) (K none μ2)) ds [] μ1 kk)
    (hQ : ∀ D as' F' μ' H' acc vs, Out pu as F H as' F' (era H' D) → Sta pu as' F' μ' (era H' D) → H' D = some (.lst vs) → Reps F' acc vs → kk acc μ' → Q (.ref D) H') :
    tLc (WI X tg iter) (gU X scope tg) (tU X scope ifs) (eU X scope elt) (own.map (·.2)) σ H Q := by
  refine (hi as F μ H σ ρ _ s0 rh h).mono fun J H1 ⟨as1, F1, μ1, ds, o1, s1, y, hl, q1⟩ => ?_
  intro D hD
  have hD0 : H D = none := o1.none hD
  refine ⟨fun i m H2 => m = ds.length - i ∧ i ≤ ds.length ∧ ∃ as2 F2 μ2 acc vs, Out pu as F H as2 F2 H2 ∧ Same F1 F2 ∧ Ge as as2 F F2 ∧ Sta pu as2 F2 μ2 H2 ∧ Apart pu as2 F2 D ∧ H2 D = some (.lst vs) ∧ Reps F2 acc vs ∧ acc.length ≤ i ∧
    runC (fun d K μ => g d (wipeR ρ (own.map (·.2))) fun ρ2 => tt ρ2 μ fun b μ2 => br b (te ρ2 μ2 fun x μ3 => coldS x fun x => K (some x) μ3) (K none μ2)) (ds.drop i) acc μ2 kk, ?_, ?_⟩
  · have ap := s1.apart hD
    refine ⟨ds.length, by simp, Nat.zero_le _, as1, F1, μ1, [], [], o1.swap hD0 fun b hb => upd_ne hb, Same.refl _, o1.ge, s1.swap ap fun b hb => upd_ne hb, ap, upd_same, .nil, Nat.le_refl _, by simpa using q1⟩
  · rintro i m H2 ⟨rfl, hi2, as2, F2, μ2, acc, vs, o2, g2, ge2, s2, ap, hv, rv, hacc, q2⟩
    obtain ⟨y1, y2⟩ := y as2 F2 μ2 H2 g2 s2 i
    by_cases hlt : i < ds.length
    · right
      have e : ds[i]? = some ds[i] := by simp [hlt]
      obtain ⟨go, yl⟩ := y1 _ e
      rw [List.drop_eq_getElem_cons hlt] at q2
      refine ⟨go, fun H3 => ∃ as3 F3 μ3 acc vs, Out pu as F H as3 F3 H3 ∧ Same F1 F3 ∧ Ge as as3 F F3 ∧ Sta pu as3 F3 μ3 H3 ∧ Apart pu as3 F3 D ∧ H3 D = some (.lst vs) ∧ Reps F3 acc vs ∧ acc.length ≤ i + 1 ∧
        runC (fun d K μ => g d (wipeR ρ (own.map (·.2))) fun ρ2 => tt ρ2 μ fun b μ2 => br b (te ρ2 μ2 fun x μ3 => coldS x fun x => K (some x) μ3) (K none μ2)) (ds.drop (i + 1)) acc μ3 kk, fun H3 hh => ⟨ds.length - (i + 1), by omega, rfl, hlt, hh⟩, fun x H3 yx => ?_⟩
      obtain ⟨F3, o3, s3, r3⟩ := yl x H3 yx
      have hv3 : H3 D = some (.lst vs) := o3.keep D _ hv ap.p ap.a
      have ap3 : Apart pu as2 F3 D := ap.out o3 (by rw [hv]; simp)
      intro sA HA CA clA fpA
      refine (hg sA HA CA clA fpA as2 F3 μ2 H3 _ _ ds[i] x _ s3 ((rh.wipe _).mono (ge2.trans o3.ge)) r3 q2).mono ?_
      rintro σ4 H4 ⟨e4, ⟨ρ4, rh4, q4⟩, hl4, he4⟩
      rw [e4]
      refine ⟨wipe_eq hl4 fun j hj => he4 j fun z => hj (hsub j z), ?_⟩
      intro sB HB CB clB fpB
      refine (ht sB HB CB clB fpB as2 F3 μ2 H3 σ4 ρ4 _ s3 rh4 q4).mono fun b H5 ⟨as5, F5, μ5, o5, s5, q5⟩ => ?_
      have hv5 : H5 D = some (.lst vs) := o5.keep D _ hv3 ap3.p ap3.a
      have ap5 : Apart pu as5 F5 D := ap3.out o5 (by rw [hv3]; simp)
      cases b with
      | false =>
        refine iteF ⟨as5, F5, μ5, acc, vs, (o2.trans o3).trans o5, (g2.trans o3.ge.ext).trans o5.ge.ext, (ge2.trans o3.ge).trans o5.ge, s5, ap5, hv5, (rv.mono o3.ge.ext).mono o5.ge.ext, by omega, ?_⟩
        simpa using q5.2 rfl
      | true =>
        refine iteT ?_
        intro sC HC CC clC fpC
        refine (he sC HC CC clC fpC as5 F5 μ5 H5 σ4 ρ4 _ s5 (rh4.mono o5.ge) (q5.1 rfl)).mono fun v H6 ⟨as6, F6, μ6, d, o6, s6, r6, q6⟩ => ?_
        obtain ⟨d, rfl, q7⟩ := coldS_some q6
        have hv6 : H6 D = some (.lst vs) := o6.keep D _ hv5 ap5.p ap5.a
        have ap6 : Apart pu as6 F6 D := ap5.out o6 (by rw [hv5]; simp)
        have rv6 := ((rv.mono o3.ge.ext).mono o5.ge.ext).mono o6.ge.ext
        refine ⟨vs, hv6, ?_, as6, F6, μ6, acc ++ [d], vs ++ [v], (((o2.trans o3).trans o5).trans o6).swap hD0 fun b hb => upd_ne hb, ((g2.trans o3.ge.ext).trans o5.ge.ext).trans o6.ge.ext, ((ge2.trans o3.ge).trans o5.ge).trans o6.ge,
          s6.swap ap6 fun b hb => upd_ne hb, ap6, upd_same, rv6.app (.one r6), by simp; omega, by simpa using q7⟩
        rw [lim_eq, rv6.length]
        omega
    · have hi3 : i = ds.length := by omega
      left
      refine ⟨y2 (by simp [hi3]), ?_⟩
      rw [hi3, List.drop_length] at q2
      exact hQ D as2 F2 μ2 H2 acc vs (o2.swap hD0 fun b hb => era_ne hb) (s2.swap ap fun b hb => era_ne hb) hv rv q2
theorem de_lc (hc : X.calm = true) (hN : X.N.Nodup) (hi : DI X pu tg iter ri) (ok : BlkOk X.N X.env.scope scope own) (hsub : ∀ i ∈ is, i ∈ own.map (·.2))
    (hg : ∀ s H C cl fp, DG (blk X scope s H C cl fp) pu tg is g) (ht : ∀ s H C cl fp, DTs (blk X scope s H C cl fp) pu ifs tt) (he : ∀ s H C cl fp, DE (blk X scope s H C cl fp) pu elt te) (hs : ∀ x, foldedSetIterable iter X.env x = pure x := by intro _; rfl) :
    DE X pu (.ListComp elt [⟨tg, iter, ifs, 0⟩] scope pos) (rLC (own.map (·.2)) ri g tt te) := by
  intro as F μ H σ ρ k st rh h
  refine WE.fin (WE.of (pe_lc hc hN WI.pi ok gU.pg tU.pt eU.pe hs) ?_)
  refine lc_turns st rh hi hsub hg ht he h fun D as' F' μ' H' acc vs o s e r q => ?_
  have z := Qc.lst (k := fun d => k (.c d) μ') (s.le) era_same r q
  rw [upd_era e] at z
  exact .op o s z
end
end DL
/-! ## DL13 -/
namespace DL
open PySem PySem.Spec PyProof.Rows L2
/-! ### two clauses; dict comprehensions -/
def runA {α : Type} (body : D → List α → Mu → (List α → Mu → Prop) → Prop) : List D → List α → Mu → (List α → Mu → Prop) → Prop
  | [], acc, μ, k => k acc μ
  | d :: ds, acc, μ, k => body d acc μ fun acc' μ' => runA body ds acc' μ' k
def rIn (is1 : List Nat) (ri1 : RI) (g1 : RG) (tt1 : RT) (te : RE) (ρ2 : Rho) (acc : List D) (μ : Mu) (K : List D → Mu → Prop) : Prop := ri1 ρ2 μ fun ds1 μ3 =>
  runA (fun d1 acc μ K => g1 d1 (wipeR ρ2 is1) fun ρ3 => tt1 ρ3 μ fun b μ2 => br b (te ρ3 μ2 fun x μ3 => coldS x fun x => acc.length < lim ∧ K (acc ++ [x]) μ3) (K acc μ2)) ds1 acc μ3 K
def rLC2 (is is1 : List Nat) (ri : RI) (g : RG) (tt : RT) (ri1 : RI) (g1 : RG) (tt1 : RT) (te : RE) : RE := fun ρ μ k => ri ρ μ fun ds μ1 =>
  runA (fun d acc μ K => g d (wipeR ρ is) fun ρ2 => tt ρ2 μ fun b μ2 => br b (rIn is1 ri1 g1 tt1 te ρ2 acc μ2 K) (K acc μ2)) ds [] μ1 fun acc μ' => k (.c (.lst acc)) μ'
def iU (X : Cx) (scope : Scope) (tg iter : Expr) : TI := fun σ H R => ∀ s H0 C cl fp, WI (blk X scope s H0 C cl fp) tg iter σ H R
section
variable {X : Cx} {pu : Option Addr} {elt tg iter tg1 iter1 kx vx : Expr} {ifs ifs1 : List Expr} {scope : Scope} {own : List (Str × Nat)} {vs1 : List Nat} {pos : Pos} {is is1 : List Nat} {ri ri1 : RI} {g g1 : RG} {tt tt1 : RT} {te tk tv : RE}
theorem iU.pi (s : Shared) (H : Hp) (C : Addr) (cl : List (Str × Addr)) (fp : List Addr) : PI (X.blk s H scope (compEnvC scope cl C X.env) fp) tg iter (iU X scope tg iter) := ⟨fun pins s' _ _ _ I q => q s H C cl fp pins s' I⟩
/-- the list that is being made, in a state -/
structure Mid (pu : Option Addr) (as : List Addr) (F H : Hp) (F1 : Hp) (D : Addr) (H2 : Hp) (as2 : List Addr) (F2 : Hp) (μ2 : Mu) (acc : List DL.D) (vs : List V) : Prop where
  o : Out pu as F H as2 F2 H2
  g : Same F1 F2
  ge : Ge as as2 F F2
  s : Sta pu as2 F2 μ2 H2
  ap : Apart pu as2 F2 D
  hv : H2 D = some (.lst vs)
  rv : Reps F2 acc vs
theorem Mid.step {as as2 as3 : List Addr} {F H F1 H2 F2 F3 H3 : Hp} {D : Addr} {μ2 μ3 : Mu} {acc : List DL.D} {vs : List V} (m : Mid pu as F H F1 D H2 as2 F2 μ2 acc vs) (o : Out pu as2 F2 H2 as3 F3 H3) (s : Sta pu as3 F3 μ3 H3) : Mid pu as F H F1 D H3 as3 F3 μ3 acc vs :=
  ⟨m.o.trans o, m.g.trans o.ge.ext, m.ge.trans o.ge, s, m.ap.out o (by rw [m.hv]; simp), o.keep D _ m.hv m.ap.p m.ap.a, m.rv.mono o.ge.ext⟩
theorem Mid.app {as as2 : List Addr} {F H F1 H2 F2 : Hp} {D : Addr} {μ2 : Mu} {acc : List DL.D} {vs : List V} {d : DL.D} {v : V} (m : Mid pu as F H F1 D H2 as2 F2 μ2 acc vs) (hD : H D = none) (r : Rep F2 d v) : Mid pu as F H F1 D (upd H2 D (.lst (vs ++ [v]))) as2 F2 μ2 (acc ++ [d]) (vs ++ [v]) :=
  ⟨m.o.swap hD fun b hb => upd_ne hb, m.g, m.ge, m.s.swap m.ap fun b hb => upd_ne hb, m.ap, upd_same, m.rv.app (.one r)⟩
theorem de_lc2 (hc : X.calm = true) (hN : X.N.Nodup) (hi : DI X pu tg iter ri) (ok : BlkOk X.N X.env.scope scope own) (hsub : ∀ i ∈ is, i ∈ own.map (·.2)) (hv : ∀ i ∈ vs1, i ∈ own.map (·.2)) (hsub1 : ∀ i ∈ is1, i ∈ vs1)
    (hg : ∀ s H C cl fp, DG (blk X scope s H C cl fp) pu tg is g) (ht : ∀ s H C cl fp, DTs (blk X scope s H C cl fp) pu ifs tt) (hi1 : ∀ s H C cl fp, DI (blk X scope s H C cl fp) pu tg1 iter1 ri1)
    (hg1 : ∀ s H C cl fp, DG (blk X scope s H C cl fp) pu tg1 is1 g1) (ht1 : ∀ s H C cl fp, DTs (blk X scope s H C cl fp) pu ifs1 tt1) (he : ∀ s H C cl fp, DE (blk X scope s H C cl fp) pu elt te)
    (hs : ∀ x, foldedSetIterable iter X.env x = pure x := by intro _; rfl) (hs1 : ∀ env x, foldedSetIterable iter1 env x = pure x := by intro _ _; rfl) :
    DE X pu (.ListComp elt [⟨tg, iter, ifs, 0⟩, ⟨tg1, iter1, ifs1, 0⟩] scope pos) (rLC2 (own.map (·.2)) vs1 ri g tt ri1 g1 tt1 te) := by
  intro as F μ H σ ρ k st rh h
  refine WE.fin (WE.of (pe_lc2 hc hN WI.pi ok hv gU.pg tU.pt iU.pi gU.pg tU.pt eU.pe hs hs1) ?_)
  refine (hi as F μ H σ ρ _ st rh h).mono fun J H1 ⟨as1, F1, μ1, ds, o1, s1, y, q1⟩ => ?_
  intro D hD
  have hD0 : H D = none := o1.none hD
  refine ⟨fun i m H2 => m = ds.length - i ∧ i ≤ ds.length ∧ ∃ as2 F2 μ2 acc vs, Mid pu as F H F1 D H2 as2 F2 μ2 acc vs ∧
    runA (fun d acc μ K => g d (wipeR ρ (own.map (·.2))) fun ρ2 => tt ρ2 μ fun b μ2 => br b (rIn vs1 ri1 g1 tt1 te ρ2 acc μ2 K) (K acc μ2)) (ds.drop i) acc μ2 fun acc μ' => k (.c (.lst acc)) μ', ?_, ?_⟩
  · have ap := s1.apart hD
    exact ⟨ds.length, by simp, Nat.zero_le _, as1, F1, μ1, [], [], ⟨o1.swap hD0 fun b hb => upd_ne hb, Same.refl _, o1.ge, s1.swap ap fun b hb => upd_ne hb, ap, upd_same, .nil⟩, by simpa using q1⟩
  · rintro i m H2 ⟨rfl, hi2, as2, F2, μ2, acc, vs, md, q2⟩
    obtain ⟨y1, y2⟩ := y as2 F2 μ2 H2 md.g md.s i
    by_cases hlt : i < ds.length
    · right
      have e : ds[i]? = some ds[i] := by simp [hlt]
      obtain ⟨go, yl⟩ := y1 _ e
      rw [List.drop_eq_getElem_cons hlt] at q2
      refine ⟨go, fun H3 => ∃ as3 F3 μ3 acc vs, Mid pu as F H F1 D H3 as3 F3 μ3 acc vs ∧
        runA (fun d acc μ K => g d (wipeR ρ (own.map (·.2))) fun ρ2 => tt ρ2 μ fun b μ2 => br b (rIn vs1 ri1 g1 tt1 te ρ2 acc μ2 K) (K acc μ2)) (ds.drop (i + 1)) acc μ3 fun acc μ' => k (.c (.lst acc)) μ', fun H3 hh => ⟨ds.length - (i + 1), by omega, rfl, hlt, hh⟩, fun x H3 yx => ?_⟩
      obtain ⟨F3, o3, s3, r3⟩ := yl x H3 yx
      have md3 := md.step o3 s3
      intro sA HA CA clA fpA
      refine (hg sA HA CA clA fpA as2 F3 μ2 H3 _ _ ds[i] x _ s3 ((rh.wipe _).mono md3.ge) r3 q2).mono ?_
      rintro σ4 H4 ⟨e4, ⟨ρ4, rh4, q4⟩, hl4, he4⟩
      rw [e4]
      refine ⟨wipe_eq hl4 fun j hj => he4 j fun z => hj (hsub j z), ?_⟩
      intro sB HB CB clB fpB
      refine (ht sB HB CB clB fpB as2 F3 μ2 H3 σ4 ρ4 _ s3 rh4 q4).mono fun b H5 ⟨as5, F5, μ5, o5, s5, q5⟩ => ?_
      have md5 := md3.step o5 s5
      cases b with
      | false =>
        exact iteF ⟨as5, F5, μ5, acc, vs, md5, q5.2 rfl⟩
      | true =>
        refine iteT ?_
        intro sC HC CC clC fpC
        refine (hi1 sC HC CC clC fpC as5 F5 μ5 H5 σ4 ρ4 _ s5 (rh4.mono o5.ge) (q5.1 rfl)).mono fun J1 H6 ⟨as6, F6, μ6, ds1, o6, s6, y6, q6⟩ => ?_
        have md6 := md5.step o6 s6
        refine ⟨fun j m H7 => m = ds1.length - j ∧ j ≤ ds1.length ∧ ∃ as7 F7 μ7 acc vs, Mid pu as F H F1 D H7 as7 F7 μ7 acc vs ∧ Same F6 F7 ∧ Ge as5 as7 F5 F7 ∧
          runA (fun d1 acc μ K => g1 d1 (wipeR ρ4 vs1) fun ρ3 => tt1 ρ3 μ fun b μ2 => br b (te ρ3 μ2 fun x μ3 => coldS x fun x => acc.length < lim ∧ K (acc ++ [x]) μ3) (K acc μ2)) (ds1.drop j) acc μ7
            (fun acc' μ' => runA (fun d acc μ K => g d (wipeR ρ (own.map (·.2))) fun ρ2 => tt ρ2 μ fun b μ2 => br b (rIn vs1 ri1 g1 tt1 te ρ2 acc μ2 K) (K acc μ2)) (ds.drop (i + 1)) acc' μ' fun acc μ' => k (.c (.lst acc)) μ'),
          ⟨ds1.length, by simp, Nat.zero_le _, as6, F6, μ6, acc, vs, md6, Same.refl _, o6.ge, by simpa using q6⟩, ?_⟩
        rintro j m H7 ⟨rfl, hj2, as7, F7, μ7, acc7, vs7, md7, g7, ge7, q7⟩
        obtain ⟨z1, z2⟩ := y6 as7 F7 μ7 H7 g7 md7.s j
        by_cases hlt1 : j < ds1.length
        · right
          have e1 : ds1[j]? = some ds1[j] := by simp [hlt1]
          obtain ⟨go1, yl1⟩ := z1 _ e1
          rw [List.drop_eq_getElem_cons hlt1] at q7
          refine ⟨go1, fun H8 => ∃ as7 F7 μ7 acc vs, Mid pu as F H F1 D H8 as7 F7 μ7 acc vs ∧ Same F6 F7 ∧ Ge as5 as7 F5 F7 ∧
            runA (fun d1 acc μ K => g1 d1 (wipeR ρ4 vs1) fun ρ3 => tt1 ρ3 μ fun b μ2 => br b (te ρ3 μ2 fun x μ3 => coldS x fun x => acc.length < lim ∧ K (acc ++ [x]) μ3) (K acc μ2)) (ds1.drop (j + 1)) acc μ7
              (fun acc' μ' => runA (fun d acc μ K => g d (wipeR ρ (own.map (·.2))) fun ρ2 => tt ρ2 μ fun b μ2 => br b (rIn vs1 ri1 g1 tt1 te ρ2 acc μ2 K) (K acc μ2)) (ds.drop (i + 1)) acc' μ' fun acc μ' => k (.c (.lst acc)) μ'),
            fun H8 hh => ⟨ds1.length - (j + 1), by omega, rfl, hlt1, hh⟩, fun x1 H8 yx1 => ?_⟩
          obtain ⟨F8, o8, s8, r8⟩ := yl1 x1 H8 yx1
          have md8 := md7.step o8 s8
          intro sD HD CD clD fpD
          refine (hg1 sD HD CD clD fpD as7 F8 μ7 H8 _ _ ds1[j] x1 _ s8 ((((rh4.mono o5.ge).mono ge7).mono o8.ge).wipe vs1) r8 q7).mono ?_
          rintro σ9 H9 ⟨e9, ⟨ρ9, rh9, q9⟩, hl9, he9⟩
          rw [e9]
          refine ⟨wipe_eq hl9 fun j hj => he9 j fun z => hj (hsub1 j z), ?_⟩
          intro sE HE CE clE fpE
          refine (ht1 sE HE CE clE fpE as7 F8 μ7 H8 σ9 ρ9 _ s8 rh9 q9).mono fun b HA1 ⟨asA, FA, μA, oA, sA1, qA⟩ => ?_
          have mdA := md8.step oA sA1
          cases b with
          | false =>
            exact iteF ⟨asA, FA, μA, acc7, vs7, mdA, (g7.trans o8.ge.ext).trans oA.ge.ext, (ge7.trans o8.ge).trans oA.ge, qA.2 rfl⟩
          | true =>
            refine iteT ?_
            intro sF HF CF clF fpF
            refine (he sF HF CF clF fpF asA FA μA HA1 σ9 ρ9 _ sA1 (rh9.mono oA.ge) (qA.1 rfl)).mono fun v HB1 ⟨asB, FB, μB, d, oB, sB1, rB, qB⟩ => ?_
            obtain ⟨d, rfl, hlen, qC⟩ := coldS_some qB
            have mdB := mdA.step oB sB1
            refine ⟨vs7, mdB.hv, ?_, asB, FB, μB, acc7 ++ [d], vs7 ++ [v], mdB.app hD0 rB, ((g7.trans o8.ge.ext).trans oA.ge.ext).trans oB.ge.ext, ((ge7.trans o8.ge).trans oA.ge).trans oB.ge, qC⟩
            rw [lim_eq, mdB.rv.length]
            exact hlen
        · have hj3 : j = ds1.length := by omega
          left
          refine ⟨z2 (by simp [hj3]), ?_⟩
          rw [hj3, List.drop_length] at q7
          exact ⟨as7, F7, μ7, acc7, vs7, md7, q7⟩
    · have hi3 : i = ds.length := by omega
      left
      refine ⟨y2 (by simp [hi3]), ?_⟩
      rw [hi3, List.drop_length] at q2
      have z := Qc.lst (k := fun d => k (.c d) μ2) (md.s.swap md.ap fun b hb => era_ne hb).le era_same md.rv q2
      rw [upd_era md.hv] at z
      exact .op (md.o.swap hD0 fun b hb => era_ne hb) (md.s.swap md.ap fun b hb => era_ne hb) z
end
end DL
/-! ## DL14 -/
namespace DL
open PySem PySem.Spec PyProof.Rows L2
def rDead : RS := fun _ _ _ => False
theorem ds_dead {X : Cx} {pu : Option Addr} {st : Stmt} : DS X pu st rDead := fun _ _ _ _ _ _ _ _ _ h => h.elim
theorem dss_dead {X : Cx} {pu : Option Addr} {st : List Stmt} : DSs X pu st rDead := fun _ _ _ _ _ _ _ _ _ h => h.elim
def rNever : RE := fun _ _ _ => False
theorem de_never {X : Cx} {pu : Option Addr} {e : Expr} : DE X pu e rNever := fun _ _ _ _ _ _ _ _ _ h => h.elim
section
variable {X : Cx} {pu : Option Addr} {a b c e : Expr} {ta tb tc te : RE} {pos : Pos}
theorem Qc.bl {F H H' : Hp} {k : Bool → Prop} {v : V} (h : Qc F H (fun d => isB (.c d) k) v H') : ∃ b, v = .bl b ∧ H' = H ∧ k b := by
  rcases h with ⟨rfl, d, rd, kd⟩ | ⟨p, ob, d, hp, rfl, rfl, rd, kd⟩ | ⟨p, kvs, kds, hp, rfl, rfl, rd, kd⟩ | ⟨p, kvs, kds, hp, rfl, rfl, rd, kd⟩
  · obtain ⟨b, e, q⟩ := isB_some kd
    cases e
    simp only [Rep] at rd
    exact ⟨b, rd, rfl, q⟩
  · obtain ⟨b, e, q⟩ := isB_some kd
    cases e
    simp only [Rep] at rd
    cases rd
  · exact (isB_some kd).elim fun b h => by cases h.1
  · exact (isB_some kd).elim fun b h => by cases h.1
theorem de_chain {op op' : CmpOp} {f g : D → D → (D → Prop) → Prop} (ho : D2 X (compareOp op) f) (ho' : D2 X (compareOp op') g) (ha : DE X pu a ta) (hb : DE X pu b tb) (hc : DE X pu c tc)
    (hm : lastMarks [op, op'] [b, c] = false := by with_unfolding_all rfl) :
    DE X pu (.Compare a [op, op'] [b, c] pos) (rCh f g ta tb tc) := by
  intro as F μ H σ ρ k st rh h
  refine WE.fin (WE.of (pe_chain W2.op W2.op WE.pe WE.pe WE.pe hm) (seq2 ha hb st rh h fun as' F' H' μ' dx dy x y o s r1 r2 q => ?_))
  refine (ho F' H' _ _ x y _ s.le (s.rd r1) (s.rd r2) q).mono fun z H3 q3 => ?_
  obtain ⟨t, ez, eH, q9⟩ := q3.bl
  subst ez eH
  refine ⟨t, rfl, ?_⟩
  cases t with
  | false => exact iteF (.same (d := .c (.bl false)) o s (rep_bl (F := F')) (q9.2 rfl))
  | true =>
    refine iteT ((hc as' F' μ' _ σ ρ _ s (rh.mono o.ge) (q9.1 rfl)).mono fun w H4 ⟨as4, F4, μ4, d4, o4, s4, r4, q4⟩ => ?_)
    exact (ho' F4 H4 _ _ y w _ s4.le (s4.rd (r2.mono o4.ge)) (s4.rd r4) q4).mono fun v H5 q5 => .op (o.trans o4) s4 q5
end
/-! ### owned lists: methods that change them -/
/-- what a list's method does -/
abbrev LM := List D → List D → (D → List D → Prop) → Prop
def hotL : S → Mu → (Nat → List D → Prop) → Prop
  | .hot n, μ, k => lstD (μ.rd (.hot n)) fun ds => k n ds
  | _, _, _ => False
theorem hotL_some {d : S} {μ : Mu} {k : Nat → List D → Prop} (h : hotL d μ k) : ∃ n ds, d = .hot n ∧ μ.rd (.hot n) = .lst ds ∧ k n ds := by
  cases d with
  | hot n =>
    obtain ⟨ds, e, q⟩ := lstD_some h
    exact ⟨n, ds, rfl, e, q⟩
  | _ => exact h.elim
def putS (μ : Mu) (n : Nat) (d : D) : Mu := ⟨μ.hot.set n d, μ.n⟩
def rMut (f : LM) (to : RE) (tr : RA) : RE := fun ρ μ k => to ρ μ fun s μ1 => hotL s μ1 fun n _ => tr ρ μ1 fun ss μ2 => colds ss fun ds => hotL (.hot n) μ2 fun _ xs => f xs ds fun r xs' => k (.c r) (putS μ2 n (.lst xs'))
def DM (X : Cx) (id : String) (f : LM) : Prop := ∀ F H l xs ds vs ys k, Same F H → H l = some (.lst vs) → Reps F xs vs → Reps F ds ys → f xs ds k →
  ∀ (pins : List (Addr × Obj)) (s : Shared) (σ : L2.St) (v : Value) (us : List Value), Inv X pins σ H s → RelV (.ref l) v → Vals ys us →
    wpAny (model X.prog X.w) X.A (call (.builtin id) (v :: us)) (EP X pins σ (fun r H' => ∃ d xs' vs', H' = upd H l (.lst vs') ∧ Reps F xs' vs' ∧ Rep F d r ∧ k d xs')) X.xe s
section
variable {X : Cx} {pu : Option Addr} {o e : Expr} {es : List Expr} {to te : RE} {tr : RA} {name : Str} {apos cpos pos : Pos} {id : String}
theorem Sta.hotAt {as : List Addr} {F H : Hp} {μ : Mu} {n : Nat} {ds : List D} (st : Sta pu as F μ H) {v : V} (r : RepS pu as F (.hot n) v) (e : μ.rd (.hot n) = .lst ds) : ∃ a vs, as[n]? = some a ∧ v = .ref a ∧ F a = none ∧ H a = some (.lst vs) ∧ Reps F ds vs := by
  obtain ⟨a, h1, rfl⟩ := r
  have hl : n < μ.hot.length := by rw [← st.len]; exact (List.getElem?_eq_some_iff.mp h1).1
  have q := st.hot n a (μ.hot[n]) h1 (by simp [hl])
  have e2 : μ.rd (.hot n) = μ.hot[n] := by simp [Mu.rd, hl]
  rw [e2] at e
  rw [e] at q
  obtain ⟨hf, vs, h2, h3⟩ := q
  exact ⟨a, vs, h1, rfl, hf, h2, h3⟩
theorem de_mut {f : LM} (slot : Slot "list" name id) (hty : typeOf (.builtin id) = pure (.type "method_descriptor")) (hm : DM X id f) (ho : DE X pu o to) (ha : DA X pu (e :: es) tr)
    (hbase : attributeBase o name X.env (eval o X.env) = eval o X.env := by rfl)
    (hfew : ((backTo cpos (starEach (e :: es) X.env)).all (fun x => !x.1) && (backToKw cpos (keywordEach [] X.env)).all (fun x => x.1.isSome)
      && decide ((e :: es).length + ([] : List Keyword).length + (if ([] : List Keyword).isEmpty then 0 else 1) < 30)) = true := by rfl)
    (hline : (apos.endLine == cpos.line) = true := by rfl) (hs : starEach (e :: es) X.env = (false, eval e X.env) :: starEach es X.env := by rfl) (hplain : (backTo cpos (starEach es X.env)).any (·.1) = false := by rfl) :
    DE X pu (.Call (.Attribute o name apos) (e :: es) [] cpos) (rMut f to tr) := by
  intro as F μ H σ ρ k st rh h
  refine WE.of (pe_bm (r := fun x xs H Q => ∀ (pins : List (Addr × Obj)) (s : Shared) (σ : L2.St) (v : Value) (us : List Value), Inv X pins σ H s → RelV x v → Vals xs us → wpAny (model X.prog X.w) X.A (call (.builtin id) (v :: us)) (EP X pins σ Q) X.xe s)
    PySem.F.plainAttrs_list slot hty (fun pins s σ H x xs v us Q I r1 r2 q => q pins s σ v us I r1 r2) WE.pe WA.pa hbase hfew hline hs hplain) ?_
  refine (ho as F μ H σ ρ _ st rh h).mono fun v H1 ⟨as1, F1, μ1, d, o1, s1, r1, q1⟩ => ?_
  obtain ⟨n, ds0, rfl, e0, q1⟩ := hotL_some q1
  obtain ⟨a, vs0, ha1, rfl, hf1, hv1, rv1⟩ := s1.hotAt r1 e0
  refine ⟨.inl ⟨rfl, _, SqL.of hv1⟩, (ha as1 F1 μ1 H1 σ ρ _ s1 (rh.mono o1.ge) q1).mono fun ys H2 ⟨as2, F2, μ2, ss, o2, s2, r2, q2⟩ => ?_⟩
  obtain ⟨ds, ess, q8⟩ := colds_some q2
  subst ess
  obtain ⟨n', xs, en, e2, q9⟩ := hotL_some q8
  cases en
  obtain ⟨a', vs, ha2, eav, hf2, hv2, rv2⟩ := s2.hotAt (RepS.mono o2.ge (show RepS pu as1 F1 (.hot n) (.ref a) from ⟨a, ha1, rfl⟩)) e2
  cases eav
  intro pins s σ' v us I rv rus
  refine thn (hm F2 H2 a xs ds vs ys _ s2.le hv2 rv2 r2.cold q9 pins s σ' v us I rv rus) fun w s' ⟨y, H', I', ry, d, xs', vs', eH, rx, rd, kd⟩ => ?_
  subst eH
  obtain ⟨s3, o3⟩ := s2.write (c := .non) (c' := .lst xs') (o := .lst vs') ha2 ⟨hf2, vs', upd_same, rx⟩ hf2
  exact ⟨y, _, I', ry, as2, F2, _, .c d, (o1.trans o2).trans o3, s3, rd, kd⟩
def appM : LM := fun xs ds k => match ds with
  | [d] => xs.length < lim ∧ k .non (xs ++ [d])
  | _ => False
def insM : LM := fun xs ds k => match ds with
  | [.int i, d] => xs.length < lim ∧ 0 ≤ i ∧ i < 2 ^ 62 ∧ k .non (xs.take i.toNat ++ [d] ++ xs.drop i.toNat)
  | _ => False
def extM : LM := fun xs ds k => match ds with
  | [.lst ys] => xs.length + ys.length ≤ lim ∧ k .non (xs ++ ys)
  | _ => False
theorem reps1 {F : Hp} {d : D} {vs : List V} (h : Reps F [d] vs) : ∃ v, vs = [v] ∧ Rep F d v := by
  simp only [Reps] at h
  obtain ⟨v, r, rfl, h1, rfl⟩ := h
  exact ⟨v, rfl, h1⟩
theorem reps2 {F : Hp} {d e : D} {vs : List V} (h : Reps F [d, e] vs) : ∃ v w, vs = [v, w] ∧ Rep F d v ∧ Rep F e w := by
  simp only [Reps] at h
  obtain ⟨v, r, rfl, h1, w, r', rfl, h2, rfl⟩ := h
  exact ⟨v, w, rfl, h1, h2⟩
theorem dm_append : DM X "list.append" appM := by
  intro F H l xs ds vs ys k le hl rx rd h pins s σ v us I rv rus
  match ds, h with
  | [d], ⟨hz, q⟩ =>
    obtain ⟨y, rfl, ry⟩ := reps1 rd
    exact mt_append pins s σ H (.ref l) [y] v us _ I rv rus ⟨l, vs, y, rfl, rfl, hl, by rw [lim_eq, rx.length]; exact hz, .non, xs ++ [d], vs ++ [y], rfl, rx.app (.one ry), rep_non, q⟩
theorem dm_insert : DM X "list.insert" insM := by
  intro F H l xs ds vs ys k le hl rx rd h pins s σ v us I rv rus
  match ds, h with
  | [.int i, d], ⟨hz, h0, h1, q⟩ =>
    obtain ⟨y, z, rfl, ry, rz⟩ := reps2 rd
    simp only [Rep] at ry
    subst ry
    exact mt_insert pins s σ H (.ref l) _ v us _ I rv rus ⟨l, vs, i, z, rfl, rfl, hl, by rw [lim_eq, rx.length]; exact hz, h0, by omega, .non, _, _, rfl, ((rx.take i.toNat).app (.one rz)).app (rx.drop i.toNat), rep_non, q⟩
theorem dm_extend : DM X "list.extend" extM := by
  intro F H l xs ds vs ys k le hl rx rd h pins s σ v us I rv rus
  match ds, h with
  | [.lst es], ⟨hz, q⟩ =>
    obtain ⟨y, rfl, ry⟩ := reps1 rd
    simp only [Rep] at ry
    obtain ⟨b, zs, rfl, hb, rz⟩ := ry
    exact mt_extend pins s σ H (.ref l) _ v us _ I rv rus ⟨l, b, vs, zs, rfl, rfl, hl, le _ _ hb, by rw [lim_eq, rx.length, rz.length]; exact hz, .non, _, _, rfl, rx.app rz, rep_non, q⟩
end
end DL
/-! ## DL15 -/
namespace DL
open PySem PySem.Spec PyProof.Rows L2
/-! ### y = [..]; dict comprehensions -/
def keyS : D → (Key → Prop) → Prop
  | .int i, k => k (.inl i)
  | .str x, k => k (.inr x)
  | _, _ => False
theorem keyS_some {F : Hp} {d : D} {v : V} {k : Key → Prop} (h : keyS d k) (r : Rep F d v) : ∃ key, v = kV key ∧ k key := by
  cases d with
  | int i => simp only [Rep] at r; exact ⟨.inl i, r, h⟩
  | str i => simp only [Rep] at r; exact ⟨.inr i, r, h⟩
  | _ => exact h.elim
abbrev KvK := List (Key × D) → Mu → Prop
def dcB (is : List Nat) (ρ : Rho) (g : RG) (tt : RT) (tk tv : RE) : D → List (Key × D) → Mu → KvK → Prop := fun d acc μ K => g d (wipeR ρ is) fun ρ2 => tt ρ2 μ fun b μ2 => br b (tk ρ2 μ2 fun y μ3 => tv ρ2 μ3 fun x μ4 => coldS y fun y => coldS x fun x => keyS y fun key => K (putD acc key x) μ4) (K acc μ2)
def rDC (is : List Nat) (ri : RI) (g : RG) (tt : RT) (tk tv : RE) (kk : KvK) : Rho → Mu → Prop := fun ρ μ => ri ρ μ fun ds μ1 => ds.length ≤ lim ∧ runA (dcB is ρ g tt tk tv) ds [] μ1 kk
/-- a cold one; an owned one -/
def rDc (is : List Nat) (ri : RI) (g : RG) (tt : RT) (tk tv : RE) : RE := fun ρ μ k => rDC is ri g tt tk tv (fun acc μ' => k (.c (.dk acc)) μ') ρ μ
def rDcH (is : List Nat) (ri : RI) (g : RG) (tt : RT) (tk tv : RE) : RE := fun ρ μ k => rDC is ri g tt tk tv (fun acc μ' => k (.hot μ'.hot.length) ⟨μ'.hot ++ [.dk acc], μ'.n⟩) ρ μ
theorem length_putD (acc : List (Key × D)) (k : Key) (x : D) : (putD acc k x).length ≤ acc.length + 1 := by
  unfold putD
  split
  · simp
  · simp
section
variable {X : Cx} {pu : Option Addr} {elt tg iter kx vx : Expr} {ifs : List Expr} {scope : Scope} {own : List (Str × Nat)} {pos spos : Pos} {is : List Nat} {ri : RI} {g : RG} {tt : RT} {te tk tv : RE}
theorem dc_turns {as : List Addr} {F H : Hp} {μ : Mu} {σ : L2.St} {ρ : Rho} {Q : V → Hp → Prop} {kk : KvK} (s0 : Sta pu as F μ H) (rh : RhoOk pu as F ρ σ) (hi : DI X pu tg iter ri) (hsub : ∀ i ∈ is, i ∈ own.map (·.2))
    (hg : ∀ s H C cl fp, DG (blk X scope s H C cl fp) pu tg is g) (ht : ∀ s H C cl fp, DTs (blk X scope s H C cl fp) pu ifs tt) (hk : ∀ s H C cl fp, DE (blk X scope s H C cl fp) pu kx tk) (he : ∀ s H C cl fp, DE (blk X scope s H C cl fp) pu vx tv)
    (h : rDC (own.map (·.2)) ri g tt tk tv kk ρ μ)
    (hQ : ∀ D as' F' μ' H' acc kvs, Out pu as F H as' F' (era H' D) → Sta pu as' F' μ' (era H' D) → H' D = some (.dK kvs) → RepK F' acc kvs → kk acc μ' → Q (.ref D) H') :
    tDc (WI X tg iter) (gU X scope tg) (tU X scope ifs) (eU X scope kx) (eU X scope vx) (own.map (·.2)) σ H Q := by
  refine (hi as F μ H σ ρ _ s0 rh h).mono fun J H1 ⟨as1, F1, μ1, ds, o1, s1, y, hl, q1⟩ => ?_
  intro D hD
  have hD0 : H D = none := o1.none hD
  refine ⟨fun i m H2 => m = ds.length - i ∧ i ≤ ds.length ∧ ∃ as2 F2 μ2 acc kvs, Out pu as F H as2 F2 H2 ∧ Same F1 F2 ∧ Ge as as2 F F2 ∧ Sta pu as2 F2 μ2 H2 ∧ Apart pu as2 F2 D ∧ H2 D = some (.dK kvs) ∧ RepK F2 acc kvs ∧ acc.length ≤ i ∧
    runA (dcB (own.map (·.2)) ρ g tt tk tv) (ds.drop i) acc μ2 kk, ?_, ?_⟩
  · have ap := s1.apart hD
    refine ⟨ds.length, by simp, Nat.zero_le _, as1, F1, μ1, [], [], o1.swap hD0 fun b hb => upd_ne hb, Same.refl _, o1.ge, s1.swap ap fun b hb => upd_ne hb, ap, upd_same, by simp only [RepK], Nat.le_refl _, by simpa using q1⟩
  · rintro i m H2 ⟨rfl, hi2, as2, F2, μ2, acc, kvs, o2, g2, ge2, s2, ap, hv, rv, hacc, q2⟩
    obtain ⟨y1, y2⟩ := y as2 F2 μ2 H2 g2 s2 i
    by_cases hlt : i < ds.length
    · right
      have e : ds[i]? = some ds[i] := by simp [hlt]
      obtain ⟨go, yl⟩ := y1 _ e
      rw [List.drop_eq_getElem_cons hlt] at q2
      refine ⟨go, fun H3 => ∃ as3 F3 μ3 acc kvs, Out pu as F H as3 F3 H3 ∧ Same F1 F3 ∧ Ge as as3 F F3 ∧ Sta pu as3 F3 μ3 H3 ∧ Apart pu as3 F3 D ∧ H3 D = some (.dK kvs) ∧ RepK F3 acc kvs ∧ acc.length ≤ i + 1 ∧
        runA (dcB (own.map (·.2)) ρ g tt tk tv) (ds.drop (i + 1)) acc μ3 kk, fun H3 hh => ⟨ds.length - (i + 1), by omega, rfl, hlt, hh⟩, fun x H3 yx => ?_⟩
      obtain ⟨F3, o3, s3, r3⟩ := yl x H3 yx
      have hv3 : H3 D = some (.dK kvs) := o3.keep D _ hv ap.p ap.a
      have ap3 : Apart pu as2 F3 D := ap.out o3 (by rw [hv]; simp)
      intro sA HA CA clA fpA
      refine (hg sA HA CA clA fpA as2 F3 μ2 H3 _ _ ds[i] x _ s3 ((rh.wipe _).mono (ge2.trans o3.ge)) r3 q2).mono ?_
      rintro σ4 H4 ⟨e4, ⟨ρ4, rh4, q4⟩, hl4, he4⟩
      rw [e4]
      refine ⟨wipe_eq hl4 fun j hj => he4 j fun z => hj (hsub j z), ?_⟩
      intro sB HB CB clB fpB
      refine (ht sB HB CB clB fpB as2 F3 μ2 H3 σ4 ρ4 _ s3 rh4 q4).mono fun b H5 ⟨as5, F5, μ5, o5, s5, q5⟩ => ?_
      have hv5 : H5 D = some (.dK kvs) := o5.keep D _ hv3 ap3.p ap3.a
      have ap5 : Apart pu as5 F5 D := ap3.out o5 (by rw [hv3]; simp)
      cases b with
      | false =>
        refine iteF ⟨as5, F5, μ5, acc, kvs, (o2.trans o3).trans o5, (g2.trans o3.ge.ext).trans o5.ge.ext, (ge2.trans o3.ge).trans o5.ge, s5, ap5, hv5, (rv.mono o3.ge.ext).mono o5.ge.ext, by omega, q5.2 rfl⟩
      | true =>
        refine iteT ?_
        intro sC HC CC clC fpC
        refine (hk sC HC CC clC fpC as5 F5 μ5 H5 σ4 ρ4 _ s5 (rh4.mono o5.ge) (q5.1 rfl)).mono fun u H6 ⟨as6, F6, μ6, d6, o6, s6, r6, q6⟩ => ?_
        have hv6 : H6 D = some (.dK kvs) := o6.keep D _ hv5 ap5.p ap5.a
        have ap6 : Apart pu as6 F6 D := ap5.out o6 (by rw [hv5]; simp)
        intro sE HE CE clE fpE
        refine (he sE HE CE clE fpE as6 F6 μ6 H6 σ4 ρ4 _ s6 ((rh4.mono o5.ge).mono o6.ge) q6).mono fun v H7 ⟨as7, F7, μ7, d7, o7, s7, r7, q7⟩ => ?_
        have hv7 : H7 D = some (.dK kvs) := o7.keep D _ hv6 ap6.p ap6.a
        have ap7 : Apart pu as7 F7 D := ap6.out o7 (by rw [hv6]; simp)
        obtain ⟨dk, ek, q8⟩ := coldS_some q7
        obtain ⟨dv, ev, q9⟩ := coldS_some q8
        subst ek ev
        obtain ⟨key, eu, q10⟩ := keyS_some (F := F6) q9 r6
        have rv7 := (((rv.mono o3.ge.ext).mono o5.ge.ext).mono o6.ge.ext).mono o7.ge.ext
        have hlp := length_putD acc key dv
        refine ⟨kvs, key, eu, hv7, ?_, as7, F7, μ7, putD acc key dv, putK kvs key v, ((((o2.trans o3).trans o5).trans o6).trans o7).swap hD0 fun b hb => upd_ne hb, (((g2.trans o3.ge.ext).trans o5.ge.ext).trans o6.ge.ext).trans o7.ge.ext, (((ge2.trans o3.ge).trans o5.ge).trans o6.ge).trans o7.ge,
          s7.swap ap7 fun b hb => upd_ne hb, ap7, upd_same, rv7.put key r7, by omega, q10⟩
        rw [lim_eq, rv7.length]
        omega
    · have hi3 : i = ds.length := by omega
      left
      refine ⟨y2 (by simp [hi3]), ?_⟩
      rw [hi3, List.drop_length] at q2
      exact hQ D as2 F2 μ2 H2 acc kvs (o2.swap hD0 fun b hb => era_ne hb) (s2.swap ap fun b hb => era_ne hb) hv rv q2
theorem de_dc (hc : X.calm = true) (hN : X.N.Nodup) (hi : DI X pu tg iter ri) (ok : BlkOk X.N X.env.scope scope own) (hsub : ∀ i ∈ is, i ∈ own.map (·.2))
    (hg : ∀ s H C cl fp, DG (blk X scope s H C cl fp) pu tg is g) (ht : ∀ s H C cl fp, DTs (blk X scope s H C cl fp) pu ifs tt) (hk : ∀ s H C cl fp, DE (blk X scope s H C cl fp) pu kx tk) (he : ∀ s H C cl fp, DE (blk X scope s H C cl fp) pu vx tv) (hs : ∀ x, foldedSetIterable iter X.env x = pure x := by intro _; rfl) :
    DE X pu (.DictComp kx vx [⟨tg, iter, ifs, 0⟩] scope pos) (rDc (own.map (·.2)) ri g tt tk tv) := by
  intro as F μ H σ ρ k st rh h
  refine WE.fin (WE.of (pe_dc hc hN WI.pi ok gU.pg tU.pt eU.pe eU.pe hs) ?_)
  refine dc_turns st rh hi hsub hg ht hk he h fun D as' F' μ' H' acc kvs o s e r q => ?_
  have z := Qc.dict (H := era H' D) (k := fun d => k (.c d) μ') era_same r q
  rw [upd_era e] at z
  exact .op o s z
theorem de_dcH (hc : X.calm = true) (hN : X.N.Nodup) (hi : DI X pu tg iter ri) (ok : BlkOk X.N X.env.scope scope own) (hsub : ∀ i ∈ is, i ∈ own.map (·.2))
    (hg : ∀ s H C cl fp, DG (blk X scope s H C cl fp) pu tg is g) (ht : ∀ s H C cl fp, DTs (blk X scope s H C cl fp) pu ifs tt) (hk : ∀ s H C cl fp, DE (blk X scope s H C cl fp) pu kx tk) (he : ∀ s H C cl fp, DE (blk X scope s H C cl fp) pu vx tv) (hs : ∀ x, foldedSetIterable iter X.env x = pure x := by intro _; rfl) :
    DE X pu (.DictComp kx vx [⟨tg, iter, ifs, 0⟩] scope pos) (rDcH (own.map (·.2)) ri g tt tk tv) := by
  intro as F μ H σ ρ k st rh h
  refine WE.of (pe_dc hc hN WI.pi ok gU.pg tU.pt eU.pe eU.pe hs) ?_
  refine dc_turns st rh hi hsub hg ht hk he h fun D as' F' μ' H' acc kvs o s e r q => ?_
  obtain ⟨s2, o2⟩ := s.newHot (o := .dK kvs) (c := .dk acc) era_same ⟨s.le.free era_same, kvs, upd_same, r⟩
  rw [upd_era e] at s2 o2
  exact ⟨_, F', _, .hot μ'.hot.length, o.trans o2, s2, ⟨D, by rw [← s.len]; simp, rfl⟩, q⟩
/-- y = [..] -/
def rSetLc (i : Nat) (is : List Nat) (ri : RI) (g : RG) (tt : RT) (te : RE) : RS := rSet i (rLC is ri g tt te)
theorem ds_setLc (i : Nat) {y : Str} {py : Pos} (hc : X.calm = true) (hN : X.N.Nodup) (hy : X.N[i]? = some y) (hyl : X.env.scope.names.lookup y = some .local)
    (hsw : swapsWith (.ListComp elt [⟨tg, iter, ifs, 0⟩] scope pos) (some (.Name y py)) spos.line X.env = pure true) (hi : DI X pu tg iter ri) (ok : BlkOk X.N X.env.scope scope own) (hsub : ∀ i ∈ is, i ∈ own.map (·.2))
    (hg : ∀ s H C cl fp, DG (blk X scope s H C cl fp) pu tg is g) (ht : ∀ s H C cl fp, DTs (blk X scope s H C cl fp) pu ifs tt) (he : ∀ s H C cl fp, DE (blk X scope s H C cl fp) pu elt te) (hs : ∀ x, foldedSetIterable iter X.env x = pure x := by intro _; rfl) :
    DS X pu (.Assign [.Name y py] (.ListComp elt [⟨tg, iter, ifs, 0⟩] scope pos) spos) (rSetLc i (own.map (·.2)) ri g tt te) := by
  intro as F μ H σ ρ N st rh h
  refine WS.of (ps_setLc hc hN hy hyl hsw WI.pi ok gU.pg tU.pt eU.pe hs) ?_
  refine lc_turns st rh hi hsub hg ht he h fun D as' F' μ' H' acc vs o s e r q => ?_
  obtain ⟨s2, o2⟩ := s.new (o := .lst vs) era_same
  rw [upd_era e] at s2 o2
  refine ⟨as', _, μ', _, o.trans o2, s2, ((rh.mono o.ge).mono o2.ge).set i (d := .c (.lst acc)) ?_, q⟩
  simp only [RepS, Rep]
  exact ⟨D, vs, rfl, upd_same, r.mono o2.ge.ext⟩
end
end DL
/-! ## DL16 -/
namespace DL
open PySem PySem.Spec PyProof.Rows L2
/-! ### a def by its body -/
def ends (k : D → Nat → Prop) : EndsD := { nx := fun _ μ => k .non μ.n, rt := k }
def rho0 (N : List Str) (ss : List S) : Rho := ss.map some ++ List.replicate (N.length - ss.length) none
theorem RepSs.begin {pu : Option Addr} {as : List Addr} {F : Hp} {ss : List S} {vs : List V} (N : List Str) (h : RepSs pu as F ss vs) : RhoOk pu as F (rho0 N ss) (start N vs) := by
  have hl : vs.length = ss.length := by
    induction h with
    | nil => rfl
    | cons _ _ ih => simp [ih]
  refine ⟨by simp [rho0, L2.start, hl], fun i d e => ?_⟩
  unfold rho0 at e
  unfold L2.start
  by_cases hi : i < ss.length
  · rw [List.getElem?_append_left (by simpa using hi)] at e
    rw [List.getElem?_append_left (by simpa [hl] using hi)]
    clear hi hl
    induction h generalizing i with
    | nil => simp at e
    | cons a b ih =>
      cases i with
      | zero => simp at e; subst e; exact ⟨_, rfl, a⟩
      | succ i => simpa using ih i (by simpa using e)
  · rw [List.getElem?_append_right (by simpa using hi)] at e
    rw [List.getElem?_replicate] at e
    split at e
    · cases e
    · cases e
theorem fnD_of {P : Program} {w : World} {K : PySem.W.Frag} {mg : Str → Option Value} {base : Heap} {x qual : Str} {st : Stmt} {f : Addr} {fd : FuncData} {N ps : List Str} {k : Nat} {sp : Spec} {t : RS}
    (F : Fun K x qual st f fd) (S : FnScope N ps (defScope st)) (hm : mg x = some (.ref f)) (hb : Binds K fd ps []) (len : ∀ ss n kk, sp ss n kk → ss.length = ps.length)
    (hbody : ∀ (cdv : Value) (A : Around) (outer : List Env) (s : Shared) (H : Hp) (E : XK) (pu : Option Addr), Room k (A.deeper (envOfC qual (defScope st) s.heap.objs.size f cdv)) → DSs (cxOf CX0 P w K mg base N qual (defScope st) f cdv A outer s H E).nox pu (defBody st) t)
    (hsp : ∀ ss n kk, sp ss n kk → t (ends kk) (rho0 N ss) ⟨[], n⟩) : FnD P w K mg base (k + 1) x sp := by
  refine ⟨f, fd, ps, F.ok S (fun vs H Q E h => ?_) (fun cdv A outer s H vs Q E hr h => ?_), hm, F.kp, hb⟩
  · obtain ⟨pu, Fz, n, ss, kk, st0, r, h1, h2⟩ := h
    rw [← len ss n kk h1]
    induction r with
    | nil => rfl
    | cons _ _ _ => exact RepSs.length (.cons ‹_› ‹_›)
  · obtain ⟨pu, Fz, n, ss, kk, st0, r, h1, h2⟩ := h
    refine ⟨_, WSs.pss, ((hbody cdv A outer s H E pu hr) [] Fz ⟨[], n⟩ H _ _ (ends kk) st0 (r.begin N) (hsp ss n kk h1)).mono ⟨?_, ?_, ?_, ?_⟩⟩
    · rintro σ' H' ⟨as', F', μ', ρ', o, s', rh, q⟩
      refine h2 .non F' H' μ'.n .non ⟨⟨fun n a e => by simp at e, o.ge.ext⟩, o.keep, o.new, fun a h => by simp at h, o.alive⟩ s'.forget rep_non q
    · rintro v H' ⟨as', F', μ', d, o, s', rd, q⟩
      exact h2 v F' H' μ'.n d ⟨⟨fun n a e => by simp at e, o.ge.ext⟩, o.keep, o.new, fun a h => by simp at h, o.alive⟩ s'.forget rd q
    · rintro σ' H' ⟨as', F', μ', ρ', o, s', rh, q⟩
      exact q.elim
    · rintro σ' H' ⟨as', F', μ', ρ', o, s', rh, q⟩
      exact q.elim
theorem FnD.imp {P : Program} {w : World} {K : PySem.W.Frag} {mg : Str → Option Value} {base : Heap} {k : Nat} {x : Str} {sp sp' : Spec} (G : FnD P w K mg base k x sp) (h : ∀ ss n kk, sp' ss n kk → sp ss n kk) : FnD P w K mg base k x sp' := by
  obtain ⟨f, fd, ps, F, hm, hk, hb⟩ := G.ok
  refine ⟨f, fd, ps, F.imp fun vs H Q E q => ?_, hm, hk, hb⟩
  obtain ⟨pu, Fz, n, ss, kk, a, b, c, d⟩ := q
  exact ⟨pu, Fz, n, ss, kk, a, b, h _ _ _ c, d⟩
theorem FnD.mono {P : Program} {w : World} {K : PySem.W.Frag} {mg : Str → Option Value} {base : Heap} {j k : Nat} {x : Str} {sp : Spec} (G : FnD P w K mg base j x sp) (h : j ≤ k) : FnD P w K mg base k x sp := by
  obtain ⟨f, fd, ps, F, hm, hk, hb⟩ := G.ok
  exact ⟨f, fd, ps, F.mono h, hm, hk, hb⟩
end DL
/-! ## DL17 -/
namespace DL
open PySem PySem.Spec PyProof.Rows L2
section
variable {X : Cx} {pu : Option Addr} {a b c e o i value : Expr} {ta tb tc te to ti tv : RE} {pos pos' apos cpos p : Pos}
theorem Qn.bool {as : List Addr} {F H H' : Hp} {k : Bool → Mu → Prop} {v : V} (h : Qn pu as F H (fun d μ1 => isB d fun b => k b μ1) v H') : ∃ b, v = .bl b ∧ Qb pu as F H k b H' := by
  obtain ⟨as', F', H1, μ', o, s, q⟩ := h
  rcases q with ⟨rfl, d, r, q⟩ | q
  · obtain ⟨b, rfl, q⟩ := isB_some q
    simp only [RepS, Rep] at r
    exact ⟨b, r, as', F', μ', o, s, q⟩
  · obtain ⟨b, e1, e2, q9⟩ := Qc.bl (k := fun b => k b μ') q
    subst e1 e2
    exact ⟨b, rfl, as', F', μ', o, s, q9⟩
theorem dt_chain {op op' : CmpOp} {f g : D → D → (D → Prop) → Prop} (ho : D2 X (compareOp op) f) (ho' : D2 X (compareOp op') g) (ha : DE X pu a ta) (hb : DE X pu b tb) (hc : DE X pu c tc) (hm : lastMarks [op, op'] [b, c] = false := by with_unfolding_all rfl) :
    DT X pu (.Compare a [op, op'] [b, c] pos) (rT (rCh f g ta tb tc)) := by
  intro as F μ H σ ρ k st rh h
  refine WT.of (pt_chain W2.op W2.op WE.pe WE.pe WE.pe hm) (seq2 (R := fun x y H2 => W2 X (compareOp op) x y H2 fun z H3 => ∃ k_1, z = .bl k_1 ∧ (if k_1 = true then WE X c σ H3 fun w' H4 => W2 X (compareOp op') y w' H4 fun x H' => ∃ k_1, x = .bl k_1 ∧ Qb pu as F H k k_1 H' else ∃ k_1, V.bl false = .bl k_1 ∧ Qb pu as F H k k_1 H3)) ha hb st rh h fun as' F' H' μ' dx dy x y o s r1 r2 q => ?_)
  refine (ho F' H' _ _ x y _ s.le (s.rd r1) (s.rd r2) q).mono fun z H3 q3 => ?_
  obtain ⟨t, ez, eH, q9⟩ := q3.bl
  subst ez eH
  refine ⟨t, rfl, ?_⟩
  cases t with
  | false => exact iteF ⟨false, rfl, as', F', μ', o, s, q9.2 rfl⟩
  | true =>
    refine iteT ((hc as' F' μ' _ σ ρ _ s (rh.mono o.ge) (q9.1 rfl)).mono fun w H4 ⟨as4, F4, μ4, d4, o4, s4, r4, q4⟩ => ?_)
    exact (ho' F4 H4 _ _ y w _ s4.le (s4.rd (r2.mono o4.ge)) (s4.rd r4) q4).mono fun v H5 q5 => Qn.bool (.op (o.trans o4) s4 q5)
/-! ### owned dicts: d[k] = v -/
def dkD : D → (List (Key × D) → Prop) → Prop
  | .dk kvs, k => k kvs
  | _, _ => False
theorem dkD_some {d : D} {k : List (Key × D) → Prop} (h : dkD d k) : ∃ b, d = .dk b ∧ k b := by
  cases d with
  | dk b => exact ⟨b, rfl, h⟩
  | _ => exact h.elim
def hotK : S → Mu → (Nat → List (Key × D) → Prop) → Prop
  | .hot n, μ, k => dkD (μ.rd (.hot n)) fun kvs => k n kvs
  | _, _, _ => False
theorem hotK_some {d : S} {μ : Mu} {k : Nat → List (Key × D) → Prop} (h : hotK d μ k) : ∃ n kvs, d = .hot n ∧ μ.rd (.hot n) = .dk kvs ∧ k n kvs := by
  cases d with
  | hot n =>
    obtain ⟨kvs, e, q⟩ := dkD_some h
    exact ⟨n, kvs, rfl, e, q⟩
  | _ => exact h.elim
theorem Sta.hotKAt {as : List Addr} {F H : Hp} {μ : Mu} {n : Nat} {ds : List (Key × D)} (st : Sta pu as F μ H) {v : V} (r : RepS pu as F (.hot n) v) (e : μ.rd (.hot n) = .dk ds) : ∃ a vs, as[n]? = some a ∧ v = .ref a ∧ F a = none ∧ H a = some (.dK vs) ∧ RepK F ds vs := by
  obtain ⟨a, h1, rfl⟩ := r
  have hl : n < μ.hot.length := by rw [← st.len]; exact (List.getElem?_eq_some_iff.mp h1).1
  have q := st.hot n a (μ.hot[n]) h1 (by simp [hl])
  have e2 : μ.rd (.hot n) = μ.hot[n] := by simp [Mu.rd, hl]
  rw [e2] at e
  rw [e] at q
  obtain ⟨hf, vs, h2, h3⟩ := q
  exact ⟨a, vs, h1, rfl, hf, h2, h3⟩
def rPut (to ti tv : RE) : RS := fun N ρ μ => tv ρ μ fun x μ1 => to ρ μ1 fun s μ2 => ti ρ μ2 fun y μ3 => coldS x fun d => coldS y fun y => hotK s μ3 fun n kvs => keyS y fun key => kvs.length < lim ∧ N.nx ρ (putS μ3 n (.dk (putD kvs key d)))
theorem ds_put (hu : X.A.units + 1 < cLine) (ho : DE X pu o to) (hi : DE X pu i ti) (hv : DE X pu value tv) (hs : swapsWith value (some (.Subscript o i pos')) pos.line X.env = pure false := by rfl) : DS X pu (.Assign [.Subscript o i pos'] value pos) (rPut to ti tv) := by
  intro as F μ H σ ρ N st rh h
  refine WS.of (ps_dput hu WE.pe WE.pe WE.pe hs) ((hv as F μ H σ ρ _ st rh h).mono fun v H1 ⟨as1, F1, μ1, x, o1, s1, r1, q1⟩ => ?_)
  refine (ho as1 F1 μ1 H1 σ ρ _ s1 (rh.mono o1.ge) q1).mono fun w H2 ⟨as2, F2, μ2, s, o2, s2, r2, q2⟩ => ?_
  refine (hi as2 F2 μ2 H2 σ ρ _ s2 ((rh.mono o1.ge).mono o2.ge) q2).mono fun u H3 ⟨as3, F3, μ3, y, o3, s3, r3, q3⟩ => ?_
  obtain ⟨d, ed, q4⟩ := coldS_some q3
  obtain ⟨y', ey, q5⟩ := coldS_some q4
  subst ed ey
  obtain ⟨n, kvs, en, ek, q6⟩ := hotK_some q5
  subst en
  obtain ⟨key, eu, hz, q7⟩ := keyS_some (F := F3) q6 r3
  obtain ⟨a, vs, ha, ew, hf, hv, rv⟩ := s3.hotKAt (r2.mono o3.ge) ek
  subst ew eu
  have rp := rv.put key ((r1.mono o2.ge).mono o3.ge)
  obtain ⟨s4, o4⟩ := s3.write (c := .non) (c' := .dk (putD kvs key d)) (o := .dK (putK vs key v)) ha ⟨hf, _, upd_same, rp⟩ hf
  exact ⟨a, _, rfl, .inl ⟨vs, key, hv, rfl, by rw [lim_eq, rv.length]; exact hz, rfl⟩, as3, F3, _, ρ, ((o1.trans o2).trans o3).trans o4, s4, (((rh.mono o1.ge).mono o2.ge).mono o3.ge).mono o4.ge, q7⟩
/-! ### a dict written out -/
def Qp (pu : Option Addr) (as : List Addr) (F H : Hp) (k : KvK) (ps : List (V × V)) (H' : Hp) : Prop := ∃ as' F' μ' kds kvs, Out pu as F H as' F' H' ∧ Sta pu as' F' μ' H' ∧ ps = kvs.map (fun kv : Key × V => (kV kv.1, kv.2)) ∧ RepK F' kds kvs ∧ k kds μ'
abbrev RP := Rho → Mu → KvK → Prop
structure DP (X : Cx) (pu : Option Addr) (pos : Pos) (keys : List (Option Expr)) (values : List Expr) (t : RP) : Prop where
  ex : ∃ trs, PPs X pos keys values trs ∧ ∀ as F μ H σ ρ k (Q : List (V × V) → Hp → Prop), Sta pu as F μ H → RhoOk pu as F ρ σ → t ρ μ k → (∀ ps H', Qp pu as F H k ps H' → Q ps H') → tPairs trs σ H Q
def rP0 : RP := fun _ μ k => k [] μ
def rP1 (tk tv : RE) (t : RP) : RP := fun ρ μ k => tk ρ μ fun y μ1 => tv ρ μ1 fun x μ2 => coldS y fun y => coldS x fun x => keyS y fun key => t ρ μ2 fun r μ3 => k ((key, x) :: r) μ3
theorem dp_nil : DP X pu pos [] [] rP0 := ⟨_, pps_nil, fun as F μ H σ ρ k Q st rh h hQ => hQ _ _ ⟨as, F, μ, [], [], .refl, st, rfl, by simp only [RepK], h⟩⟩
theorem dp_cons {ks : List (Option Expr)} {vs : List Expr} {t : RP} (ha : DE X pu a ta) (hb : DE X pu b tb) (hr : DP X pu pos ks vs t) : DP X pu pos (some a :: ks) (b :: vs) (rP1 ta tb t) := by
  obtain ⟨trs, pp, hr⟩ := hr
  refine ⟨_, pps_cons WE.pe WE.pe pp, fun as F μ H σ ρ k Q st rh h hQ => ?_⟩
  refine (ha as F μ H σ ρ _ st rh h).mono fun v H1 ⟨as1, F1, μ1, y, o1, s1, r1, q1⟩ => ?_
  refine (hb as1 F1 μ1 H1 σ ρ _ s1 (rh.mono o1.ge) q1).mono fun w H2 ⟨as2, F2, μ2, x, o2, s2, r2, q2⟩ => ?_
  obtain ⟨y', ey, q3⟩ := coldS_some q2
  obtain ⟨x', ex, q4⟩ := coldS_some q3
  subst ey ex
  obtain ⟨key, ev, q5⟩ := keyS_some (F := F1) q4 r1
  subst ev
  refine hr as2 F2 μ2 H2 σ ρ _ _ s2 ((rh.mono o1.ge).mono o2.ge) q5 fun ps H3 ⟨as3, F3, μ3, kds, kvs, o3, s3, ep, rk, q6⟩ => hQ _ _ ?_
  exact ⟨as3, F3, μ3, (key, x') :: kds, (key, w) :: kvs, (o1.trans o2).trans o3, s3, by rw [ep]; rfl, by simp only [RepK]; exact ⟨w, kvs, rfl, Rep.mono o3.ge.ext _ r2, rk⟩, q6⟩
theorem upd_era2 {H : Hp} {D : Addr} {o : HO} : upd (era H D) D o = upd H D o := by
  funext b
  by_cases e : b = D
  · subst e; rw [upd_same, upd_same]
  · rw [upd_ne e, upd_ne e, era_ne e]
def rDisp (t : RP) : RE := fun ρ μ k => t ρ μ fun kds μ1 => kds.length ≤ 15 ∧ k (.c (.dk (mergeD [] kds))) μ1
def rDispH (t : RP) : RE := fun ρ μ k => t ρ μ fun kds μ1 => kds.length ≤ 15 ∧ k (.hot μ1.hot.length) ⟨μ1.hot ++ [.dk (mergeD [] kds)], μ1.n⟩
theorem disp_core {keys : List (Option Expr)} {values : List Expr} {t : RP} {as : List Addr} {F H : Hp} {μ : Mu} {σ : L2.St} {ρ : Rho} {kk : KvK} {Q : VK} (h : DP X pu pos keys values t) (hall : keys.all (·.isSome) = true) (hl : keys.length = values.length) (h0 : keys ≠ []) (h15 : keys.length ≤ 15) (st : Sta pu as F μ H) (rh : RhoOk pu as F ρ σ)
    (q : t ρ μ fun kds μ1 => kds.length ≤ 15 ∧ kk kds μ1)
    (hQ : ∀ D as' F' μ' H' kds kvs, Out pu as F H as' F' (era H' D) → Sta pu as' F' μ' (era H' D) → RepK F' kds kvs → kk kds μ' → Q (.ref D) (upd (era H' D) D (.dK (mergeK [] kvs)))) : WE X (.Dict keys values pos) σ H Q := by
  obtain ⟨trs, pp, hr⟩ := h
  refine WE.of (pe_disp pp hall hl h0 h15) fun D hD => ?_
  have ap := st.apart hD
  refine hr as F μ _ σ ρ _ _ (st.swap ap fun b hb => upd_ne hb) rh q fun ps H' ⟨as', F', μ', kds, kvs, o, s, ep, rk, hz, q2⟩ => ?_
  have hD' : H' D = some (.dK []) := o.keep D _ upd_same ap.p ap.a
  have o2 : Out pu as F H as' F' H' := ((Out.refl (pu := pu) (as := as) (F := F) (H := H)).swap hD fun b hb => upd_ne hb).trans o
  have ap' : Apart pu as' F' D := ap.out o (by rw [upd_same]; simp)
  refine ⟨hD', kvs, ep, by rw [rk.length]; exact hz, ?_⟩
  have := hQ D as' F' μ' H' kds kvs (o2.swap hD fun b hb => era_ne hb) (s.swap ap' fun b hb => era_ne hb) rk q2
  rw [upd_era2] at this
  exact this
theorem de_disp {keys : List (Option Expr)} {values : List Expr} {t : RP} (h : DP X pu pos keys values t) (hall : keys.all (·.isSome) = true := by rfl) (hl : keys.length = values.length := by rfl) (h0 : keys ≠ [] := by intro z; cases z) (h15 : keys.length ≤ 15 := by decide) : DE X pu (.Dict keys values pos) (rDisp t) := by
  intro as F μ H σ ρ k st rh q
  refine WE.fin (disp_core h hall hl h0 h15 st rh q fun D as' F' μ' H' kds kvs o s rk q2 => ?_)
  exact .op o s (Qc.dict (k := fun d => k (.c d) μ') era_same (RepK.merge (by simp only [RepK]) rk) q2)
theorem de_dispH {keys : List (Option Expr)} {values : List Expr} {t : RP} (h : DP X pu pos keys values t) (hall : keys.all (·.isSome) = true := by rfl) (hl : keys.length = values.length := by rfl) (h0 : keys ≠ [] := by intro z; cases z) (h15 : keys.length ≤ 15 := by decide) : DE X pu (.Dict keys values pos) (rDispH t) := by
  intro as F μ H σ ρ k st rh q
  refine disp_core h hall hl h0 h15 st rh q fun D as' F' μ' H' kds kvs o s rk q2 => ?_
  have rm := RepK.merge (F := F') (bs := []) (ks := []) (by simp only [RepK]) rk
  obtain ⟨s2, o2⟩ := s.newHot (o := .dK (mergeK [] kvs)) (c := .dk (mergeD [] kds)) era_same ⟨s.le.free era_same, _, upd_same, rm⟩
  exact ⟨_, F', _, .hot μ'.hot.length, o.trans o2, s2, ⟨D, by rw [← s.len]; simp, rfl⟩, q2⟩
/-! ### [*xs, ..] -/
def rStar (te : RE) (tr : RA) : RA := fun ρ μ k => te ρ μ fun x μ1 => lstD (μ1.rd x) fun ds => tr ρ μ1 fun ss μ2 => k (ds.map S.c ++ ss) μ2
theorem RepSs.ofReps {as : List Addr} {F : Hp} : ∀ {ds : List D} {vs : List V}, Reps F ds vs → RepSs pu as F (ds.map S.c) vs
  | [], _, h => by simp only [Reps] at h; subst h; exact .nil
  | d :: ds, _, h => by
    simp only [Reps] at h
    obtain ⟨v, r, rfl, h1, h2⟩ := h
    exact .cons h1 (RepSs.ofReps h2)
theorem RepSs.app {as : List Addr} {F : Hp} {ss ts : List S} {vs ws : List V} (h : RepSs pu as F ss vs) (g : RepSs pu as F ts ws) : RepSs pu as F (ss ++ ts) (vs ++ ws) := by
  induction h with
  | nil => exact g
  | cons a _ ih => exact .cons a ih
theorem da_star {es : List Expr} {tr : RA} (he : DE X pu e te) (hr : DA X pu es tr) (hs : starEach (.Starred e p :: es) X.env = (true, eval e X.env) :: starEach es X.env := by rfl) : DA X pu (.Starred e p :: es) (rStar te tr) := by
  intro as F μ H σ ρ k st rh q
  refine WA.of (StX.pa_star WE.pe WA.pa hs) ((he as F μ H σ ρ _ st rh q).mono fun v H1 ⟨as1, F1, μ1, x, o1, s1, r1, q1⟩ => ?_)
  obtain ⟨ds, e1, q2⟩ := lstD_some q1
  have rd := s1.rd r1
  rw [e1] at rd
  obtain ⟨a, vs, ev, hl, rs⟩ := rd
  refine ⟨a, vs, ev, .inr (SqL.of hl), (hr as1 F1 μ1 H1 σ ρ _ s1 (rh.mono o1.ge) q2).mono fun ws H2 ⟨as2, F2, μ2, ss, o2, s2, r2, q3⟩ => ?_⟩
  exact ⟨as2, F2, μ2, _, o1.trans o2, s2, (RepSs.ofReps (rs.mono o2.ge.ext)).app r2, q3⟩
end
end DL
/-! ## DL18 -/
namespace DL
open PySem PySem.Spec PyProof.Rows L2
/-! ### a, b, .. = x, y, .. -/
def setM : Rho → List Nat → List S → (Rho → Prop) → Prop
  | ρ, [], [], k => k ρ
  | ρ, i :: is, s :: ss, k => setM (ρ.set i (some s)) is ss k
  | _, _, _, _ => False
def DN (X : Cx) (pu : Option Addr) (ts : List Expr) (is : List Nat) : Prop := ∀ as F H σ ρ ss vs k, RhoOk pu as F ρ σ → RepSs pu as F ss vs → setM ρ is ss k → WGs X ts vs σ H (fun σ' H' => H' = H ∧ ∃ ρ', RhoOk pu as F ρ' σ' ∧ k ρ')
def rUnp (is : List Nat) (tr : RA) : RS := fun N ρ μ => tr ρ μ fun ss μ1 => ss.length = is.length ∧ is.length < 100 ∧ setM ρ is ss fun ρ' => N.nx ρ' μ1
def rPar3 (i j l : Nat) (ta tb tc : RE) : RS := fun N ρ μ => ta ρ μ fun x μ1 => tb ρ μ1 fun y μ2 => tc ρ μ2 fun z μ3 => N.nx (((ρ.set i (some x)).set j (some y)).set l (some z)) μ3
section
variable {X : Cx} {pu : Option Addr} {pos : Pos}
theorem dn_nil : DN X pu [] [] := by
  intro as F H σ ρ ss vs k rh r h
  cases r with
  | nil => exact WGs.of pgs_nil ⟨rfl, rfl, ρ, rh, h⟩
  | cons _ _ => exact h.elim
theorem dn_cons (i : Nat) {x : Str} {p : Pos} {es : List Expr} {is : List Nat} (hN : X.N.Nodup) (hi : X.N[i]? = some x) (hx : Loc X.env.scope x) (hr : DN X pu es is)
    (hf : X.fn x = true ∨ X.env.scope.names.lookup x = some .local := by first | exact .inl rfl | exact .inr rfl) (hs : (assignEach (.Name x p :: es) X.env).map (·.2) = assign (.Name x p) X.env :: (assignEach es X.env).map (·.2) := by rfl) : DN X pu (.Name x p :: es) (i :: is) := by
  intro as F H σ ρ ss vs k rh r h
  cases r with
  | nil => exact h.elim
  | @cons d v ds ws a b =>
    refine WGs.of (pgs_cons (pg_name hN hi hx hf) WGs.pgs hs) ⟨v, ws, rfl, ?_⟩
    exact hr as F H _ _ ds ws k (rh.set i a) b h
theorem ds_unp {ts es : List Expr} {is : List Nat} {tr : RA} {k1 k2 : Nat} {p1 p2 : Pos} (hc : X.calm = true) (ht : DN X pu ts is) (ha : DA X pu es tr) (hn : (assignEach ts X.env).length = is.length := by rfl) (hst : (assignEach ts X.env).findIdx? (·.1) = none := by rfl)
    (hs : swapsWithSole [.Tuple ts k1 p1] (.Tuple es k2 p2) pos.line X.env = pure false := by rfl) (hw : swappedStores [.Tuple ts k1 p1] (.Tuple es k2 p2) X.env = pure none := by rfl)
    (h1 : (assignEach [.Tuple ts k1 p1] X.env).map (·.2) = [assign (.Tuple ts k1 p1) X.env] := by rfl) :
    DS X pu (.Assign [.Tuple ts k1 p1] (.Tuple es k2 p2) pos) (rUnp is tr) := by
  intro as F μ H σ ρ N s rh h
  refine WS.of (ps_asg (pe_tup WA.pa) (pg_tup hc WGs.pgs hn hst) hs hw h1) ((ha as F μ H σ ρ _ s rh h).mono fun vs H1 ⟨as1, F1, μ1, ss, o1, s1, r1, hl, hl2, q1⟩ => ?_)
  have hvl : vs.length = is.length := by rw [r1.length]; exact hl
  refine ⟨by rw [hvl, lim_eq]; show is.length ≤ 16777216; omega, fun p hp => ?_⟩
  have ap := s1.apart hp
  refine ⟨p, vs, rfl, SqT.of upd_same, hvl, ?_⟩
  refine (ht as1 F1 (upd H1 p (.tup vs)) σ ρ ss vs _ (rh.mono o1.ge) r1 q1).mono ?_
  rintro σ' H' ⟨e, ρ', rh', q⟩
  rw [e]
  exact ⟨as1, F1, μ1, ρ', o1.swap (o1.none hp) fun b hb => upd_ne hb, s1.swap ap fun b hb => upd_ne hb, rh', q⟩
theorem ds_par3 (i j l : Nat) {x y z : Str} {a b c : Expr} {ta tb tc : RE} {px py pz pt : Pos} {kt k2 pt2} (hc : X.calm = true) (hN : X.N.Nodup) (hi : X.N[i]? = some x) (hj : X.N[j]? = some y) (hl : X.N[l]? = some z) (hij : i ≠ j) (hil : i ≠ l) (hjl : j ≠ l)
    (hx : X.env.scope.names.lookup x = some .local) (hy : X.env.scope.names.lookup y = some .local) (hz : X.env.scope.names.lookup z = some .local) (ha : DE X pu a ta) (hb : DE X pu b tb) (hcc : DE X pu c tc)
    (hw : swappedStores [.Tuple [.Name x px, .Name y py, .Name z pz] kt pt] (.Tuple [a, b, c] k2 pt2) X.env = pure (some [x, y, z]))
    (hs : swapsWithSole [.Tuple [.Name x px, .Name y py, .Name z pz] kt pt] (.Tuple [a, b, c] k2 pt2) pos.line X.env = pure false := by rfl)
    (h1 : starEach [a, b, c] X.env = (false, eval a X.env) :: starEach [b, c] X.env := by rfl) (h2 : starEach [b, c] X.env = (false, eval b X.env) :: starEach [c] X.env := by rfl) (h3 : starEach [c] X.env = (false, eval c X.env) :: starEach [] X.env := by rfl) :
    DS X pu (.Assign [.Tuple [.Name x px, .Name y py, .Name z pz] kt pt] (.Tuple [a, b, c] k2 pt2) pos) (rPar3 i j l ta tb tc) := by
  intro as F μ H σ ρ N s rh h
  refine WS.of (ps_par3 hc hN hi hj hl hij hil hjl hx hy hz (pa_cons WE.pe (pa_cons WE.pe (pa_cons WE.pe pa_nil h3) h2) h1) hw hs) ?_
  refine (ha as F μ H σ ρ _ s rh h).mono fun v H1 ⟨as1, F1, μ1, d, o1, s1, r1, q1⟩ => ?_
  refine (hb as1 F1 μ1 H1 σ ρ _ s1 (rh.mono o1.ge) q1).mono fun w H2 ⟨as2, F2, μ2, d2, o2, s2, r2, q2⟩ => ?_
  refine (hcc as2 F2 μ2 H2 σ ρ _ s2 ((rh.mono o1.ge).mono o2.ge) q2).mono fun u H3 ⟨as3, F3, μ3, d3, o3, s3, r3, q3⟩ => ?_
  exact ⟨v, w, u, rfl, as3, F3, μ3, _, (o1.trans o2).trans o3, s3, (((((rh.mono o1.ge).mono o2.ge).mono o3.ge).set i ((r1.mono o2.ge).mono o3.ge)).set j (r2.mono o3.ge)).set l r3, q3⟩
end
end DL
/-! ## DL19 -/
namespace DL
open PySem PySem.Spec PyProof.Rows L2
/-! ### isinstance: two built-in types, an own class -/
section
variable {X : Cx} {pu : Option Addr} {e o : Expr} {te to : RE} {p pos apos tpos cpos : Pos} {T U : String}
def rIsi2 (T U : String) (te : RE) : RE := fun ρ μ k => te ρ μ fun d μ1 => onS (tyN (μ1.rd d)) fun n => onS (kitB n T) fun b => onS (kitB n U) fun c => k (.c (.bl (b || c))) μ1
theorem de_isi2 {tx tz : Str} {p2 p3 : Pos} {kk : Nat} (he : DE X pu e te) (hg : Gl X "isinstance") (hm : X.mg "isinstance" = none) (hg2 : Gl X tx) (hm2 : X.mg tx = none) (hv2 : bootBuiltins tx = some (.type T)) (hg3 : Gl X tz) (hm3 : X.mg tz = none) (hv3 : bootBuiltins tz = some (.type U))
    (hn : tx ≠ "__name__" := by decide) (hd : (tx == ("__debug__" : Str)) = false := by decide) (hn3 : tz ≠ "__name__" := by decide) (hd3 : (tz == ("__debug__" : Str)) = false := by decide)
    (hs : starEach [e, .Tuple [.Name tx p2, .Name tz p3] kk tpos] X.env = (false, eval e X.env) :: starEach [.Tuple [.Name tx p2, .Name tz p3] kk tpos] X.env := by rfl)
    (hs2 : starEach [.Tuple [.Name tx p2, .Name tz p3] kk tpos] X.env = (false, eval (.Tuple [.Name tx p2, .Name tz p3] kk tpos) X.env) :: starEach [] X.env := by rfl) (hpl : (backTo pos (starEach [.Tuple [.Name tx p2, .Name tz p3] kk tpos] X.env)).any (·.1) = false := by rfl)
    (hs3 : starEach [.Name tx p2, .Name tz p3] X.env = (false, eval (.Name tx p2) X.env) :: starEach [.Name tz p3] X.env := by rfl) (hs4 : starEach [.Name tz p3] X.env = (false, eval (.Name tz p3) X.env) :: starEach [] X.env := by rfl) :
    DE X pu (.Call (.Name "isinstance" p) [e, .Tuple [.Name tx p2, .Name tz p3] kk tpos] [] pos) (rIsi2 T U te) := by
  intro as F μ H σ ρ k st rh h
  refine WE.of (pe_callB call_isiT hg hm (by decide +kernel) (pa_cons WE.pe (pa_cons (pe_tup (pa_cons (pe_bltn (v := .ty T) hg2 hm2 hv2 rfl hn hd) (pa_cons (pe_bltn (v := .ty U) hg3 hm3 hv3 rfl hn3 hd3) pa_nil hs4) hs3)) pa_nil hs2) hs) (he := hs) (hpl := hpl)) ((he as F μ H σ ρ _ st rh h).mono fun v H1 ⟨as1, F1, μ1, d, o1, s1, r1, q1⟩ => ?_)
  obtain ⟨n, e1, q2⟩ := onS_some q1
  obtain ⟨b, e2, q3⟩ := onS_some q2
  obtain ⟨c, e3, q4⟩ := onS_some q3
  refine ⟨by show 2 ≤ sizeLine; decide, fun t ht => ?_⟩
  have ap := s1.apart ht
  have s2 : Sta pu as1 F1 μ1 (upd H1 t (.tup [.ty T, .ty U])) := s1.swap ap fun b hb => upd_ne hb
  refine ⟨v, t, [.ty T, .ty U], .type n, [.type T, .type U], b || c, rfl, upd_same, .cons (.ty T) (.cons (.ty U) .nil), tyN_at s2.le (s2.rd r1) e1, ?_, .of (d := .c (.bl (b || c))) (o1.swap (o1.none ht) fun b hb => upd_ne hb) s2 (rep_bl (F := F1)) q4⟩
  unfold PySem.W.kitAny
  rw [kit_ty e2]
  cases b with
  | true => rfl
  | false =>
    unfold PySem.W.kitAny
    rw [kit_ty e3]
    cases c with
    | true => rfl
    | false => rfl
/-- what isinstance asks of an own class at C -/
structure OwnC (K : PySem.W.Frag) (C : Addr) : Prop where
  cl : Cls K C
  ha : PySem.W.findIn K (.ref C) "__class__" = some (some (.builtin "object.__class__"))
  hn : PySem.W.specialIn K (.builtin "object.__class__") "__get__" = some (some (.builtin "getset_descriptor.__get__"))
  htk : PySem.W.takesIn K (.builtin "object.__class__") = some true
  hm : PySem.W.mroIn K C (.type "object") = some true
  no : PySem.W.kitOne K (.type "NoneType") (.ref C) = some false ∧ PySem.W.kitOne K (.type "bool") (.ref C) = some false ∧ PySem.W.kitOne K (.type "int") (.ref C) = some false ∧ PySem.W.kitOne K (.type "str") (.ref C) = some false ∧
    PySem.W.kitOne K (.type "list") (.ref C) = some false ∧ PySem.W.kitOne K (.type "tuple") (.ref C) = some false ∧ PySem.W.kitOne K (.type "dict") (.ref C) = some false
def isC (C : Addr) : D → Option Bool
  | .obj C' _ => if C' = C then some true else none
  | .ty _ => none
  | .adr _ => none
  | .dt _ => none
  | _ => some false
def rIsiC (C : Addr) (te : RE) : RE := fun ρ μ k => te ρ μ fun d μ1 => onS (isC C (μ1.rd d)) fun b => k (.c (.bl b)) μ1
theorem de_isiC {tx : Str} {p2 : Pos} {C : Addr} (he : DE X pu e te) (hg : Gl X "isinstance") (hm : X.mg "isinstance" = none) (hg2 : Gl X tx) (hm2 : X.mg tx = some (.ref C)) (hC : OwnC X.K C) (hd : (tx == ("__debug__" : Str)) = false := by decide)
    (hs : starEach [e, .Name tx p2] X.env = (false, eval e X.env) :: starEach [.Name tx p2] X.env := by rfl) (hs2 : starEach [.Name tx p2] X.env = (false, eval (.Name tx p2) X.env) :: starEach [] X.env := by rfl) (hpl : (backTo pos (starEach [.Name tx p2] X.env)).any (·.1) = false := by rfl) :
    DE X pu (.Call (.Name "isinstance" p) [e, .Name tx p2] [] pos) (rIsiC C te) := by
  intro as F μ H σ ρ k st rh h
  refine WE.of (pe_callB call_isi hg hm (by decide +kernel) (pa_cons WE.pe (pa_cons (pe_glob hg2 hm2 (v := .ref C) rfl hd) pa_nil hs2) hs) (he := hs) (hpl := hpl)) ((he as F μ H σ ρ _ st rh h).mono fun v H1 ⟨as1, F1, μ1, d, o1, s1, r1, q1⟩ => ?_)
  obtain ⟨b, e1, q2⟩ := onS_some q1
  have ra := s1.rd r1
  suffices z : ∃ t, TyX X.K H1 v t ∧ PySem.W.kitOne X.K t (.ref C) = some b by
    obtain ⟨t, z1, z2⟩ := z
    exact ⟨v, .ref C, t, .ref C, b, rfl, .own C, z1, z2, .of (d := .c (.bl b)) o1 s1 (rep_bl (F := F1)) q2⟩
  obtain ⟨n1, n2, n3, n4, n5, n6, n7⟩ := hC.no
  generalize μ1.rd d = c at e1 ra
  cases c with
  | non => cases e1; exact ⟨_, tyN_at (d := .non) s1.le ra rfl, n1⟩
  | bl x => cases e1; exact ⟨_, tyN_at (d := .bl x) s1.le ra rfl, n2⟩
  | int x => cases e1; exact ⟨_, tyN_at (d := .int x) s1.le ra rfl, n3⟩
  | str x => cases e1; exact ⟨_, tyN_at (d := .str x) s1.le ra rfl, n4⟩
  | lst x => cases e1; exact ⟨_, tyN_at (d := .lst x) s1.le ra rfl, n5⟩
  | tup x => cases e1; exact ⟨_, tyN_at (d := .tup x) s1.le ra rfl, n6⟩
  | dk x => cases e1; exact ⟨_, tyN_at (d := .dk x) s1.le ra rfl, n7⟩
  | obj C' fs =>
    obtain ⟨a, dx, us, rfl, h1, h2⟩ := ra
    simp only [isC] at e1
    by_cases hcc : C' = C
    · rw [if_pos hcc] at e1
      cases e1
      rw [hcc] at h1
      refine ⟨.ref C, .base (.ins h1 hC.cl hC.ha hC.hn hC.htk hC.hm), ?_⟩
      unfold PySem.W.kitOne
      rw [if_pos (by simp)]
    · rw [if_neg hcc] at e1
      cases e1
  | ty n => cases e1
  | adr a => cases e1
  | dt x => cases e1
/-! ### methods of an object, objects made -/
structure MtD (P : Program) (w : World) (K : PySem.W.Frag) (mg : Str → Option Value) (base : Heap) (k : Nat) (C : Addr) (m : Str) (sp : Spec) : Prop where
  ok : ∃ (f : Addr) (fd : FuncData) (ps : List Str), FnOk P w K mg base CX0 k f fd ps (spOf sp) ∧ Cls K C ∧ Meth K C m f ∧ Binds K fd ps []
def objS (C : Addr) (m : Str) : S → (S → Prop) → Prop
  | .c (.obj C' fs), k => C' = C ∧ fs.lookup m = none ∧ k (.c (.obj C' fs))
  | _, _ => False
theorem objS_some {C : Addr} {m : Str} {d : S} {k : S → Prop} (h : objS C m d k) : ∃ fs, d = .c (.obj C fs) ∧ fs.lookup m = none ∧ k (.c (.obj C fs)) := by
  cases d with
  | c d =>
    cases d with
    | obj C' fs => obtain ⟨rfl, h1, h2⟩ := h; exact ⟨fs, rfl, h1, h2⟩
    | _ => exact h.elim
  | _ => exact h.elim
theorem RepF.none {F : Hp} {f : Str} : ∀ {fs : List (Str × D)} {us : List (Str × V)}, RepF F fs us → fs.lookup f = Option.none → us.lookup f = Option.none
  | [], _, h, _ => by simp only [RepF] at h; subst h; rfl
  | (k, d') :: fs, _, h, e => by
    simp only [RepF] at h
    obtain ⟨v, t, rfl, h1, h2⟩ := h
    simp only [List.lookup_cons] at e ⊢
    cases hb : f == k with
    | true => rw [hb] at e; cases e
    | false => rw [hb] at e; exact RepF.none h2 e
def rMeth0 (C : Addr) (m : Str) (sp : Spec) (to : RE) : RE := fun ρ μ k => to ρ μ fun s μ1 => objS C m s fun s => sp [s] μ1.n fun d n' => k (.c d) ⟨μ1.hot, n'⟩
theorem de_meth0 {k : Nat} {C : Addr} {m : Str} {sp : Spec} {pl : Sem Bool} (G : MtD X.prog X.w X.K X.mg X.base k C m sp) (hr : Room k X.A) (ho : DE X pu o to)
    (ht : eval (.Call (.Attribute o m apos) [] [] pos) X.env = (do
      let ov ← eval o X.env
      standAt apos.atName
      let (f, first) ← holding [ov] (getMethod ov m pl)
      callWith pos f first (backTo pos (starEach [] X.env)) (backToKw pos (keywordEach [] X.env))) := by rfl) : DE X pu (.Call (.Attribute o m apos) [] [] pos) (rMeth0 C m sp to) := by
  intro as F μ H σ ρ kk st rh h
  obtain ⟨f, fd, ps, F0, c, hm, hb⟩ := G.ok
  refine WE.of (pe_meth0 (pl := pl) WE.pe c hm F0 hr hb .nil pass0 ht) ((ho as F μ H σ ρ _ st rh h).mono fun v H1 ⟨as1, F1, μ1, s, o1, s1, r1, q1⟩ => ?_)
  obtain ⟨fs, rfl, hl, q2⟩ := objS_some q1
  have r2 := r1
  simp only [RepS, Rep] at r2
  obtain ⟨a, dx, us, rfl, h1, h2⟩ := r2
  refine ⟨a, dx, us, rfl, s1.le _ _ h1, h2.none hl, ?_⟩
  refine ⟨pu, F1, μ1.n, [.c (.obj C fs)], _, s1.forget, .cons r1 .nil, q2, fun v F' H' n' d o s r q => ?_⟩
  obtain ⟨s3, o3⟩ := s1.restore o s
  exact .of (d := .c d) (o1.trans o3) s3 r q
/-- what __init__ promises: arguments, draws so far, what is wanted of the fields -/
abbrev SpecI := List S → Nat → (List (Str × D) → Nat → Prop) → Prop
def spIn (C : Addr) (sp : SpecI) : Sp := fun vs H Q _ => ∃ pu F n x us ss k, vs = .ref x :: us ∧ Sta pu [x] F ⟨[.obj C []], n⟩ H ∧ RepSs pu [] F ss us ∧ sp ss n k ∧
  ∀ as' F' μ' H' fs, Out pu [x] F H as' F' H' → Sta pu as' F' μ' H' → as'[0]? = some x → μ'.hot[0]? = some (.obj C fs) → k fs μ'.n → Q .non H'
structure InD (P : Program) (w : World) (K : PySem.W.Frag) (mg : Str → Option Value) (base : Heap) (k : Nat) (x : Str) (C : Addr) (sp : SpecI) : Prop where
  ok : ∃ (f : Addr) (fd : FuncData) (ps : List Str), FnOk P w K mg base CX0 k f fd ps (spIn C sp) ∧ Mk K C f ∧ mg x = some (.ref C) ∧ Binds K fd ps []
def rMake (C : Addr) (sp : SpecI) (tr : RA) : RE := fun ρ μ k => tr ρ μ fun ss μ1 => argS ss fun ss => sp ss μ1.n fun fs n' => k (.c (.obj C fs)) ⟨μ1.hot, n'⟩
theorem de_make {k : Nat} {C : Addr} {x : Str} {sp : SpecI} {es : List Expr} {tr : RA} (G : InD X.prog X.w X.K X.mg X.base k x C sp) (hr : Room (k + 1) X.A) (hg : Gl X x) (ha : DA X pu (e :: es) tr) (hdb : (x == ("__debug__" : Str)) = false := by decide)
    (he : starEach (e :: es) X.env = (false, eval e X.env) :: starEach es X.env := by rfl) (hpl : (backTo pos (starEach es X.env)).any (·.1) = false := by rfl) : DE X pu (.Call (.Name x p) (e :: es) [] pos) (rMake C sp tr) := by
  intro as F μ H σ ρ kk st rh h
  obtain ⟨f, fd, ps, F0, M, hm, hb⟩ := G.ok
  refine WE.of (pe_make M F0 hr hg hm hb .nil pass0 WA.pa hdb he hpl) ((ha as F μ H σ ρ _ st rh h).mono fun vs H1 ⟨as1, F1, μ1, ss, o1, s1, r1, q1⟩ => ?_)
  obtain ⟨r2, q2⟩ := argS_some r1 q1
  rw [List.append_nil]
  intro y dx hy hdx hne
  have sf := s1.forget
  have ap := sf.apart hdx
  have s2 : Sta pu [] F1 ⟨[], μ1.n⟩ (upd H1 dx (.own y)) := sf.swap ap fun b hb => upd_ne hb
  have hy2 : upd H1 dx (.own y) y = none := by rw [upd_ne (Ne.symm hne)]; exact hy
  obtain ⟨s3, o3⟩ := s2.newHot (o := .ins C dx []) (c := .obj C []) hy2 ⟨s2.le.free hy2, dx, [], upd_same, by simp only [RepF]⟩
  refine ⟨pu, F1, μ1.n, y, vs, ss, _, rfl, s3, r2, q2, fun as' F' μ' H' fs o s ha' hc' q => ⟨rfl, ?_⟩⟩
  have hxo := s.hot 0 y _ ha' hc'
  obtain ⟨hf, dz, us, hH, rf⟩ := hxo
  obtain ⟨s4, o4, g⟩ := s.freezeTo (u := .ins C dz us) ha' hc' hf
  rw [upd_self hH] at s4 o4
  have o0 : Out pu [] F1 H1 [] F1 (upd H1 dx (.own y)) := (Out.refl).swap hdx fun b hb => upd_ne hb
  obtain ⟨s5, o5⟩ := s1.restore (((o0.trans o3).trans o).trans o4) s4
  refine .of (d := .c (.obj C fs)) (o1.trans o5) s5 ?_ q
  simp only [RepS, Rep]
  exact ⟨y, dz, us, rfl, upd_same, rf.mono g⟩
/-! ### self.f = e in __init__ -/
def putFD (f : Str) (v : D) : List (Str × D) → List (Str × D)
  | [] => [(f, v)]
  | (g, x) :: r => if g = f then (g, v) :: r else (g, x) :: putFD f v r
theorem RepF.put {F : Hp} {f : Str} {d : D} {v : V} (r : Rep F d v) : ∀ {fs : List (Str × D)} {us : List (Str × V)}, RepF F fs us → RepF F (putFD f d fs) (putF f v us)
  | [], _, h => by simp only [RepF] at h; subst h; simp only [putFD, putF, RepF]; exact ⟨v, [], rfl, r, rfl⟩
  | (k, d') :: fs, _, h => by
    simp only [RepF] at h
    obtain ⟨y, t, rfl, h1, h2⟩ := h
    unfold putFD putF
    by_cases e : k = f
    · rw [if_pos e, if_pos e]; simp only [RepF]; exact ⟨_, _, rfl, r, h2⟩
    · rw [if_neg e, if_neg e]; simp only [RepF]; exact ⟨_, _, rfl, h1, RepF.put r h2⟩
theorem RepF.length {F : Hp} : ∀ {fs : List (Str × D)} {us : List (Str × V)}, RepF F fs us → us.length = fs.length
  | [], _, h => by simp only [RepF] at h; subst h; rfl
  | (k, d') :: fs, _, h => by
    simp only [RepF] at h
    obtain ⟨y, t, rfl, h1, h2⟩ := h
    simp [RepF.length h2]
def hotO (C : Addr) : S → Mu → (Nat → List (Str × D) → Prop) → Prop
  | .hot n, μ, k => ∃ fs, μ.rd (.hot n) = .obj C fs ∧ k n fs
  | _, _, _ => False
def rFldSet (C : Addr) (f : Str) (to tv : RE) : RS := fun N ρ μ => tv ρ μ fun x μ1 => to ρ μ1 fun s μ2 => coldS x fun d => hotO C s μ2 fun n fs => fs.length < 1000 ∧ N.nx ρ (putS μ2 n (.obj C (putFD f d fs)))
theorem ds_fld {C : Addr} {f : Str} {value : Expr} {tv : RE} {pos' : Pos} (ho : DE X pu o to) (hv : DE X pu value tv) (cl : Cls X.K C) (na : NoAttr X.K C f) (hs : swapsWith value (some (.Attribute o f pos')) pos.line X.env = pure false := by rfl) :
    DS X pu (.Assign [.Attribute o f pos'] value pos) (rFldSet C f to tv) := by
  intro as F μ H σ ρ N st rh h
  refine WS.of (ps_fld WE.pe WE.pe hs) ((hv as F μ H σ ρ _ st rh h).mono fun v H1 ⟨as1, F1, μ1, x, o1, s1, r1, q1⟩ => ?_)
  refine (ho as1 F1 μ1 H1 σ ρ _ s1 (rh.mono o1.ge) q1).mono fun w H2 ⟨as2, F2, μ2, s, o2, s2, r2, q2⟩ => ?_
  obtain ⟨d, ed, q3⟩ := coldS_some q2
  subst ed
  cases s with
  | hot n =>
    obtain ⟨fs, ef, hz, q4⟩ := q3
    obtain ⟨a, h1, rfl⟩ := r2
    have hl : n < μ2.hot.length := by rw [← s2.len]; exact (List.getElem?_eq_some_iff.mp h1).1
    have qh := s2.hot n a (μ2.hot[n]) h1 (by simp [hl])
    have e2 : μ2.rd (.hot n) = μ2.hot[n] := by simp [Mu.rd, hl]
    rw [e2] at ef
    rw [ef] at qh
    obtain ⟨hf, dx, us, h2, h3⟩ := qh
    have rp := RepF.put (f := f) (r1.mono o2.ge) h3
    obtain ⟨s4, o4⟩ := s2.write (c := .non) (c' := .obj C (putFD f d fs)) (o := .ins C dx (putF f v us)) h1 ⟨hf, dx, _, upd_same, rp⟩ hf
    exact ⟨a, C, dx, us, rfl, h2, cl, na, by rw [h3.length]; exact hz, as2, F2, _, ρ, (o1.trans o2).trans o4, s4, ((rh.mono o1.ge).mono o2.ge).mono o4.ge, q4⟩
  | _ => exact q3.elim
end
end DL
/-! ## DL20 -/
namespace DL
open PySem PySem.Spec PyProof.Rows L2
section
variable {X : Cx} {pu : Option Addr} {e e2 o : Expr} {te te2 to : RE} {p pos apos tpos cpos : Pos}
/-! ### list(d.values()), list(d.items()) -/
def rList_values (te : RE) : RE := fun ρ μ k => te ρ μ fun d μ1 => dkD (μ1.rd d) fun kds => k (.c (.lst (kds.map (·.2)))) μ1
def rList_items (te : RE) : RE := fun ρ μ k => te ρ μ fun d μ1 => dkD (μ1.rd d) fun kds => k (.c (.lst (kds.map fun p => .tup [kD p.1, p.2]))) μ1
theorem view_list {tx : Str} {name : Str} {id : String} {Q : VK} {s : Shared} {pins : List (Addr × Obj)} {σ : L2.St} (hg : Gl X "list") (hm : X.mg "list" = none)
    (hbase : attributeBase e name X.env (eval e X.env) = eval e X.env) (hline : (apos.endLine == cpos.line) = true) (sl : Slot "dict" name id) (ty : typeOf (.builtin id) = pure (.type "method_descriptor"))
    (hs : starEach [.Call (.Attribute e name apos) [] [] cpos] X.env = (false, eval (.Call (.Attribute e name apos) [] [] cpos) X.env) :: starEach [] X.env) (I : Inv X pins σ H0 s) (he : wpAny (model X.prog X.w) X.A (eval e X.env) (fun u s1 => ∃ a, u = .ref a ∧ s1.TypeIs (.ref a) "dict" ∧ (∀ b, Value.ref a = .ref b → ∃ ob, s1.heap.get? b = some ob ∧ ob.dict = none) ∧
      wpAny (model X.prog X.w) X.A (callWith cpos (.builtin id) [.ref a] [] []) (fun v s2 => wpAny (model X.prog X.w) X.A (call (.type "list") [v]) (EP X pins σ Q) X.xe s2) X.xe s1) X.xe s) :
    wpAny (model X.prog X.w) X.A (eval (.Call (.Name "list" p) [.Call (.Attribute e name apos) [] [] cpos] [] pos) X.env) (EP X pins σ Q) X.xe s := by
  refine wpAny_Call_Name_kw (ld_blt I hg hm (by decide +kernel : bootBuiltins "list" = some (.type "list")) ?_)
  refine PyProof.Rows.callWith_type1 ?_ hs rfl
  rw [hs]
  show wpAny _ _ (spliced ((false, eval (.Call (.Attribute e name apos) [] [] cpos) X.env) :: backTo pos (starEach [] X.env))) _ _ s
  refine Calls.spliced_cons ?_
  refine wpAny_Call_method (T := "dict") (id := id) hbase rfl hline PySem.F.plainAttrs_dict sl ty (thn he fun u s1 ⟨a, eu, h1, h2, h3⟩ => ?_)
  subst eu
  exact ⟨h1, h2, thn h3 fun v s2 q => Calls.spliced_nil q⟩
theorem de_list_values (hc : X.calm = true) (hg : Gl X "list") (hm : X.mg "list" = none) (he : DE X pu e te) (hbase : attributeBase e "values" X.env (eval e X.env) = eval e X.env := by rfl) (hline : (apos.endLine == cpos.line) = true := by rfl)
    (hs : starEach [.Call (.Attribute e "values" apos) [] [] cpos] X.env = (false, eval (.Call (.Attribute e "values" apos) [] [] cpos) X.env) :: starEach [] X.env := by rfl) :
    DE X pu (.Call (.Name "list" p) [.Call (.Attribute e "values" apos) [] [] cpos] [] pos) (rList_values te) := by
  intro as F μ H σ ρ k st rh h
  refine WE.fin ?_
  intro pins s I
  refine view_list (tx := "values") hg hm hbase hline PySem.F.slot_dict_values PySem.F.type_dict_values hs I (thn (he as F μ H σ ρ _ st rh h pins s I) fun u s1 ⟨x, H1, I1, rx, as1, F1, μ1, d, o1, st1, r1, q1⟩ => ?_)
  obtain ⟨kds, e1, q2⟩ := dkD_some q1
  have rd := st1.rd r1
  rw [e1] at rd
  obtain ⟨a, kvs, ex, hd, rk⟩ := rd
  subst ex
  obtain rfl : u = Value.ref a := rx
  obtain ⟨hz, hs0, vs, kv, hdo⟩ := dk_rd I1.hok hd
  obtain ⟨ep, hat⟩ := hdo.dictAt
  have I2 : Inv X pins σ H1 { s1 with heap := s1.heap.push { cls := .type "dict_values", data := .fields #[.ref a] } } := I1.kept (t' := s1.toks) fun b ob q => Heap.get?_push_of_some _ q
  refine ⟨a, rfl, hdo.typeIs, hdo.mapOf.noDict, ?_⟩
  refine method_meetsIn PySem.F.slot_dict_values PySem.F.entry_dict_values rfl (PySem.evalArgs_none ⟨rfl, hdo.typeIs, PySem.F.args_dict_values_1 _, _, meets_dict_values (mixKind X.prog X.w) a hs0, ⟨vs, hdo⟩, ?_⟩)
  refine PySem.W.kdl_call (PySem.W.kdl_values (knd := mixKind X.prog X.w) (kvs := vs) (ep := ep)) (I1.ok.hd hc) ⟨⟨_, Heap.get?_push_size _ rfl, rfl, rfl⟩, hat.push _⟩ (by rw [← kv.length]; exact hz) fun h' tk acc c' hk hD hacc => ?_
  have hv : Vals (kvs.map (·.2)) acc.toList := by
    refine vals_get (by simp [hacc.1, kv.length]) fun j w e => ?_
    obtain ⟨key, e2⟩ := hacc.2 j w (by rw [← Array.getElem?_toList]; exact e)
    have hj : j < kvs.length := by rw [Paired.length kv]; exact (List.getElem?_eq_some_iff.mp e2).1
    obtain ⟨y, e3, e4⟩ := LiI.paired_get kv (x := kvs[j]) (i := j) (by simp [hj])
    rw [e2] at e3
    cases e3
    exact ⟨kvs[j].2, by simp [hj], e4.2⟩
  have hf := I2.hok.fresh (Nat.le_refl (Heap.objs (s1.heap.push { cls := .type "dict_values", data := .fields #[.ref a] })).size)
  refine ⟨.ref _, upd H1 _ (.lst (kvs.map (·.2))), I2.laid (t' := tk) hk (Nat.le_refl _)
    (show ObjOk X.prog X.w _ _ _ (.lst (kvs.map (·.2))) from ⟨by rw [List.length_map]; exact hz, acc.toList, c', hv, by rw [Array.toArray_toList]; exact hD⟩), rfl, ?_⟩
  exact .op o1 st1 (.lst st1.le hf rk.vals q2)
open Classical in
/-- what is new is frozen -/
noncomputable def grow (F H' : Hp) (N : Addr → Prop) : Hp := fun b => if N b then H' b else F b
theorem Sta.grow {as : List Addr} {F H H' : Hp} {μ : Mu} {N : Addr → Prop} (st : Sta pu as F μ H) (kp : ∀ b o, H b = some o → H' b = some o) (hN : ∀ b, N b → H b = none) :
    Sta pu as (DL.grow F H' N) μ H' ∧ Out pu as F H as (DL.grow F H' N) H' ∧ Same F (DL.grow F H' N) := by
  have off : ∀ b, H b ≠ none → ¬ N b := fun b h z => h (hN b z)
  have eF : ∀ b, H b ≠ none → DL.grow F H' N b = F b := fun b h => if_neg (off b h)
  have g : Same F (DL.grow F H' N) := fun b o e => by
    rw [eF b (by rw [st.le _ _ e]; simp)]; exact e
  refine ⟨⟨fun b u e => ?_, st.len, st.nd, fun n a c h1 h2 => ?_, fun a ha => ?_, fun q e => ?_⟩, ⟨⟨fun _ _ h => h, g⟩, fun a u e _ _ => kp a u e, fun a e => ?_, fun _ h => .inl h, fun a h => ?_⟩, g⟩
  · by_cases hb : N b
    · rw [show DL.grow F H' N b = H' b from if_pos hb] at e; exact e
    · rw [show DL.grow F H' N b = F b from if_neg hb] at e; exact kp _ _ (st.le _ _ e)
  · have hl := (st.live a (List.mem_of_getElem? h1)).1
    have hh : H' a = H a := by
      cases e : H a with
      | none => exact absurd e hl
      | some u => exact kp a u e
    refine (st.hot n a c h1 h2).mono g ?_ hh
    rw [eF a hl]
    cases e : F a with
    | none => exact .inl rfl
    | some x => right; intro _ z; cases z
  · obtain ⟨h1, h2⟩ := st.live a ha
    refine ⟨?_, h2⟩
    cases e : H a with
    | none => exact absurd e h1
    | some u => rw [kp a u e]; simp
  · obtain ⟨h1, a, b, c, d, h2, h3⟩ := st.pur q e
    exact ⟨by rw [eF q (by rw [h2]; simp)]; exact h1, a, b, c, d, kp _ _ h2, h3⟩
  · by_cases hb : N a
    · exact .inr (.inl (hN a hb))
    · rw [show DL.grow F H' N a = F a from if_neg hb] at e; exact .inl e
  · cases e : H a with
    | none => exact absurd e h
    | some u => rw [kp a u e]; simp
theorem Reps.pairs {F F' : Hp} : ∀ {kds : List (Key × D)} {kvs : List (Key × V)} {ts : List Addr}, RepK F kds kvs → Same F F' → Paired (fun (t : Addr) (q : Key × V) => F' t = some (.tup [kV q.1, q.2])) ts kvs → Reps F' (kds.map fun p => D.tup [kD p.1, p.2]) (ts.map V.ref)
  | [], _, _, h, _, q => by simp only [RepK] at h; subst h; cases q; exact .nil
  | (k, d) :: kds, _, _, h, g, q => by
    simp only [RepK] at h
    obtain ⟨v, r, rfl, h1, h2⟩ := h
    cases q with
    | @cons t _ ts _ a b =>
      refine .cons ?_ (Reps.pairs h2 g b)
      simp only [Rep]
      exact ⟨t, _, rfl, a, .cons (rep_kD k) (.cons (h1.mono g) .nil)⟩
theorem paired_mem {α β : Type} {P : α → β → Prop} {Q : α → β → Prop} : ∀ {xs : List α} {ys : List β}, Paired P xs ys → (∀ x ∈ xs, ∀ y, P x y → Q x y) → Paired Q xs ys
  | _, _, .nil, _ => .nil
  | _, _, .cons a b, h => .cons (h _ (by simp) _ a) (paired_mem b fun x hx => h x (by simp [hx]))
theorem de_list_items (hc : X.calm = true) (hg : Gl X "list") (hm : X.mg "list" = none) (he : DE X pu e te) (hbase : attributeBase e "items" X.env (eval e X.env) = eval e X.env := by rfl) (hline : (apos.endLine == cpos.line) = true := by rfl)
    (hs : starEach [.Call (.Attribute e "items" apos) [] [] cpos] X.env = (false, eval (.Call (.Attribute e "items" apos) [] [] cpos) X.env) :: starEach [] X.env := by rfl) :
    DE X pu (.Call (.Name "list" p) [.Call (.Attribute e "items" apos) [] [] cpos] [] pos) (rList_items te) := by
  intro as F μ H σ ρ k st rh h pins s I
  refine view_list (tx := "items") hg hm hbase hline PySem.F.slot_dict_items PySem.F.type_dict_items hs I (thn (he as F μ H σ ρ _ st rh h pins s I) fun u s1 ⟨x, H1, I1, rx, as1, F1, μ1, d, o1, st1, r1, q1⟩ => ?_)
  obtain ⟨kds, e1, q2⟩ := dkD_some q1
  have rd := st1.rd r1
  rw [e1] at rd
  obtain ⟨a, kvs, ex, hd, rk⟩ := rd
  subst ex
  obtain rfl : u = Value.ref a := rx
  obtain ⟨hz, hs0, vs, kv, hdo⟩ := dk_rd I1.hok hd
  obtain ⟨ep, hat⟩ := hdo.dictAt
  have lk : kvs.length = vs.length := Paired.length kv
  have I2 : Inv X pins σ H1 { s1 with heap := s1.heap.push { cls := .type "dict_items", data := .fields #[.ref a] } } := I1.kept (t' := s1.toks) fun b ob q => Heap.get?_push_of_some _ q
  refine ⟨a, rfl, hdo.typeIs, hdo.mapOf.noDict, ?_⟩
  refine method_meetsIn PySem.F.slot_dict_items PySem.F.entry_dict_items rfl (PySem.evalArgs_none ⟨rfl, hdo.typeIs, PySem.F.args_dict_items_1 _, _, meets_dict_items (mixKind X.prog X.w) a hs0, ⟨vs, hdo⟩, ?_⟩)
  refine PySem.W.kdx_call (knd := mixKind X.prog X.w) (kvs := vs) (ep := ep) (I1.ok.hd hc) ⟨_, Heap.get?_push_size _ rfl, rfl, rfl⟩ (hat.push _) (by omega) fun h' tk acc c ts hk hS hl hG hacc => ?_
  obtain ⟨H', k1, k2, k3, k4, k5, k6, J⟩ := LiI.items_laid (tk := tk) I2 hz kv hk hS hl hG hacc
  generalize (Heap.objs (s1.heap.push { cls := .type "dict_items", data := .fields #[.ref a] })).size = P at k2 k4 k5
  obtain ⟨s3, o3, g3⟩ := st1.grow (N := fun b => b = P ∨ b ∈ ts) k1 fun b hb => by
    rcases hb with rfl | hb
    · exact k2
    · exact k3 b hb
  refine ⟨.ref P, H', J, rfl, as1, _, μ1, .c (.lst (kds.map fun p => .tup [kD p.1, p.2])), o1.trans o3, s3, ?_, q2⟩
  simp only [RepS, Rep]
  refine ⟨P, _, rfl, ?_, Reps.pairs rk g3 (paired_mem k6 fun t ht y hy => ?_)⟩
  · rw [show DL.grow F1 H' (fun b => b = P ∨ b ∈ ts) P = H' P from if_pos (.inl rfl)]; exact k5
  · rw [show DL.grow F1 H' (fun b => b = P ∨ b ∈ ts) t = H' t from if_pos (.inr ht)]; exact hy
end
end DL
/-! ## DL21 -/
namespace DL
open PySem PySem.Spec PyProof.Rows L2
section
variable {X : Cx} {pu : Option Addr} {e e2 o a b : Expr} {te te2 to ta tb : RE} {p pos apos tpos cpos : Pos}
/-! ### text.join, int.bit_length, list.index -/
def strD : D → (Str → Prop) → Prop
  | .str x, k => k x
  | _, _ => False
theorem strD_some {d : D} {k : Str → Prop} (h : strD d k) : ∃ b, d = .str b ∧ k b := by
  cases d with
  | str b => exact ⟨b, rfl, h⟩
  | _ => exact h.elim
def rJoin (to te : RE) : RE := fun ρ μ k => to ρ μ fun s μ1 => strD (μ1.rd s) fun z => te ρ μ1 fun y μ2 => lstD (μ2.rd y) fun ds => ∃ ys : List Str, ds = ys.map D.str ∧ (ys.map (·.length)).sum + ys.length * z.length ≤ lim ∧ k (.c (.str (Txt.join z ys))) μ2
theorem de_join (ho : DE X pu o to) (he : DE X pu e te) (hs : starEach [e] X.env = [(false, eval e X.env)] := by rfl) (hbase : attributeBase o "join" X.env (eval o X.env) = eval o X.env := by rfl) (hline : (apos.endLine == pos.line) = true := by rfl) :
    DE X pu (.Call (.Attribute o "join" apos) [e] [] pos) (rJoin to te) := by
  intro as F μ H σ ρ k st rh h
  refine WE.of (pe_join WE.pe WE.pe hs hbase hline) ((ho as F μ H σ ρ _ st rh h).mono fun v H1 ⟨as1, F1, μ1, s, o1, s1, r1, q1⟩ => ?_)
  obtain ⟨z, e1, q2⟩ := strD_some q1
  have ra := s1.rd r1
  rw [e1] at ra
  cases (show v = _ from ra)
  refine ⟨⟨z, rfl⟩, (he as1 F1 μ1 H1 σ ρ _ s1 (rh.mono o1.ge) q2).mono fun w H2 ⟨as2, F2, μ2, y, o2, s2, r2, q3⟩ => ?_⟩
  obtain ⟨ds, e2, ys, rfl, hl, q4⟩ := lstD_some q3
  have rb := s2.rd r2
  rw [e2] at rb
  obtain ⟨q, vs, rfl, h1, h2⟩ := rb
  rw [Reps.strs] at h2
  subst h2
  exact ⟨z, q, ys, rfl, rfl, .inl (SqL.of h1), hl, .of (d := .c (.str (Txt.join z ys))) (o1.trans o2) s2 (rep_str (F := F2)) q4⟩
def rBits (to : RE) : RE := fun ρ μ k => to ρ μ fun s μ1 => isI (μ1.rd s) fun i => k (.c (.int (Builtin.Int.intBits i : Nat))) μ1
theorem de_bits (ho : DE X pu o to) (hbase : attributeBase o "bit_length" X.env (eval o X.env) = eval o X.env := by rfl) (hline : (apos.endLine == pos.line) = true := by rfl) : DE X pu (.Call (.Attribute o "bit_length" apos) [] [] pos) (rBits to) := by
  intro as F μ H σ ρ k st rh h
  refine WE.of (pe_bits WE.pe hbase hline) ((ho as F μ H σ ρ _ st rh h).mono fun v H1 ⟨as1, F1, μ1, s, o1, s1, r1, q1⟩ => ?_)
  obtain ⟨i, e1, q2⟩ := isI_some q1
  have ra := s1.rd r1
  rw [e1] at ra
  exact ⟨i, ra, .of (d := .c (.int (Builtin.Int.intBits i : Nat))) o1 s1 (rep_int (F := F1)) q2⟩
/-- l.index(x), texts -/
def rIndexD (to te : RE) : RE := fun ρ μ k => to ρ μ fun s μ1 => lstD (μ1.rd s) fun _ => te ρ μ1 fun y μ2 => lstD (μ2.rd s) fun ds => strD (μ2.rd y) fun z => ∃ xs : List Str, ds = xs.map D.str ∧ z ∈ xs ∧ k (.c (.int (xs.idxOf z : Nat))) μ2
theorem de_index (hu : X.A.units + 64 < cLine) (ho : DE X pu o to) (he : DE X pu e te) (hbase : attributeBase o "index" X.env (eval o X.env) = eval o X.env := by rfl)
    (hfew : ((backTo cpos (starEach [e] X.env)).all (fun x => !x.1) && (backToKw cpos (keywordEach [] X.env)).all (fun x => x.1.isSome)
      && decide (([e] : List Expr).length + ([] : List Keyword).length + (if ([] : List Keyword).isEmpty then 0 else 1) < 30)) = true := by rfl)
    (hline : (apos.endLine == cpos.line) = true := by rfl) (hs : starEach [e] X.env = (false, eval e X.env) :: starEach [] X.env := by rfl) (hplain : (backTo cpos (starEach [] X.env)).any (·.1) = false := by rfl) :
    DE X pu (.Call (.Attribute o "index" apos) [e] [] cpos) (rIndexD to te) := by
  intro as F μ H σ ρ k st rh h
  refine WE.of (pe_bm PySem.F.plainAttrs_list PySem.F.slot_list_index PySem.F.type_list_index mt_index WE.pe (pa_cons WE.pe pa_nil hs) hbase hfew hline hs hplain) ((ho as F μ H σ ρ _ st rh h).mono fun v H1 ⟨as1, F1, μ1, s, o1, s1, r1, q1⟩ => ?_)
  obtain ⟨ds0, e0, q2⟩ := lstD_some q1
  have ra0 := s1.rd r1
  rw [e0] at ra0
  obtain ⟨q0, vs0, ev0, hv0, _⟩ := ra0
  subst ev0
  refine ⟨.inl ⟨rfl, _, SqL.of hv0⟩, (he as1 F1 μ1 H1 σ ρ _ s1 (rh.mono o1.ge) q2).mono fun w H2 ⟨as2, F2, μ2, y, o2, s2, r2, q3⟩ => ?_⟩
  obtain ⟨ds, e1, q4⟩ := lstD_some q3
  obtain ⟨z, e2, xs, rfl, hz, q5⟩ := strD_some q4
  have ra := s2.rd (r1.mono o2.ge)
  rw [e1] at ra
  obtain ⟨q, vs, ev, hv, hr⟩ := ra
  cases ev
  have rb := s2.rd r2
  rw [e2] at rb
  cases (show w = _ from rb)
  rw [Reps.strs] at hr
  subst hr
  have hlt : xs.idxOf z < xs.length := List.idxOf_lt_length_of_mem hz
  refine ⟨q0, _, .str z, xs.idxOf z, .str z, rfl, rfl, SqL.of hv, rfl, by simp [flatV], ?_, by simp [eqV], fun m z' hm e => ?_, .of (d := .c (.int (xs.idxOf z : Nat))) (o1.trans o2) s2 (rep_int (F := F2)) q5⟩
  · rw [List.getElem?_map, List.getElem?_eq_getElem hlt, List.getElem_idxOf hlt]; rfl
  · rw [List.getElem?_map] at e
    have hml : m < xs.length := by omega
    rw [List.getElem?_eq_getElem hml] at e
    cases e
    have : xs[m] ≠ z := fun hh => by
      have h0 := List.not_of_lt_findIdx (xs := xs) (p := (· == z)) (i := m) hm
      simp [hh] at h0
    simpa [eqV] using this
/-! ### zip -/
def zipD : D → D → (List D → Prop) → Prop
  | .lst xs, .lst ys, k => k ((xs.zip ys).map fun p => .tup [p.1, p.2])
  | .tup xs, .tup ys, k => k ((xs.zip ys).map fun p => .tup [p.1, p.2])
  | _, _, _ => False
def iZip (ta tb : RE) : RI := fun ρ μ k => ta ρ μ fun x μ1 => tb ρ μ1 fun y μ2 => coldS x fun x => coldS y fun y => zipD x y fun ds => k ds μ2
theorem yzip {K : PySem.W.Frag} {F1 : Hp} {l r : Addr} {vs ws : List V} {xs ys : List D} (h1 : F1 l = some (.lst vs)) (h2 : F1 r = some (.lst ws)) (r1 : Reps F1 xs vs) (r2 : Reps F1 ys ws) : Yields pu (Itz K l r) F1 ((xs.zip ys).map fun p => .tup [p.1, p.2]) := by
  intro as F μ H g st i
  have hl : H l = some (.lst vs) := st.le _ _ (g _ _ h1)
  have hr : H r = some (.lst ws) := st.le _ _ (g _ _ h2)
  refine ⟨fun d e => ?_, fun e => ?_⟩
  · rw [List.getElem?_map] at e
    cases ez : (xs.zip ys)[i]? with
    | none => rw [ez] at e; cases e
    | some pr =>
      rw [ez] at e
      cases e
      have hx : xs[i]? = some pr.1 := by have := List.getElem?_zip_eq_some.mp ez; exact this.1
      have hy : ys[i]? = some pr.2 := by have := List.getElem?_zip_eq_some.mp ez; exact this.2
      obtain ⟨v, ev, rv⟩ := r1.get hx
      obtain ⟨w, ew, rw'⟩ := r2.get hy
      refine ⟨⟨vs, ws, v, w, SqL.of hl, SqL.of hr, ev, ew⟩, fun x H' yy => ?_⟩
      obtain ⟨T, v', w', rfl, hT, rfl, h3, h4⟩ := yy
      have := h3 vs (SqL.of hl)
      rw [ev] at this
      cases this
      have := h4 ws (SqL.of hr)
      rw [ew] at this
      cases this
      exact st.tup hT (rv.mono g) (rw'.mono g)
  · refine ⟨vs, ws, SqL.of hl, SqL.of hr, ?_⟩
    have := List.getElem?_eq_none_iff.mp e
    simp at this
    rw [r1.length, r2.length]
    omega
theorem yzipT {K : PySem.W.Frag} {F1 : Hp} {l r : Addr} {vs ws : List V} {xs ys : List D} (h1 : F1 l = some (.tup vs)) (h2 : F1 r = some (.tup ws)) (r1 : Reps F1 xs vs) (r2 : Reps F1 ys ws) : Yields pu (RZ.ItzT K l r) F1 ((xs.zip ys).map fun p => .tup [p.1, p.2]) := by
  intro as F μ H g st i
  have hl : H l = some (.tup vs) := st.le _ _ (g _ _ h1)
  have hr : H r = some (.tup ws) := st.le _ _ (g _ _ h2)
  refine ⟨fun d e => ?_, fun e => ?_⟩
  · rw [List.getElem?_map] at e
    cases ez : (xs.zip ys)[i]? with
    | none => rw [ez] at e; cases e
    | some pr =>
      rw [ez] at e
      cases e
      have hx : xs[i]? = some pr.1 := by have := List.getElem?_zip_eq_some.mp ez; exact this.1
      have hy : ys[i]? = some pr.2 := by have := List.getElem?_zip_eq_some.mp ez; exact this.2
      obtain ⟨v, ev, rv⟩ := r1.get hx
      obtain ⟨w, ew, rw'⟩ := r2.get hy
      refine ⟨⟨vs, ws, v, w, SqT.of hl, SqT.of hr, ev, ew⟩, fun x H' yy => ?_⟩
      obtain ⟨T, v', w', rfl, hT, rfl, h3, h4⟩ := yy
      have := h3 vs (SqT.of hl)
      rw [ev] at this
      cases this
      have := h4 ws (SqT.of hr)
      rw [ew] at this
      cases this
      exact st.tup hT (rv.mono g) (rw'.mono g)
  · refine ⟨vs, ws, SqT.of hl, SqT.of hr, ?_⟩
    have := List.getElem?_eq_none_iff.mp e
    simp at this
    rw [r1.length, r2.length]
    omega
theorem di_zip {elts : List Expr} {kk : Nat} (hg : Gl X "zip") (hm : X.mg "zip" = none) (ha : DE X pu a ta) (hb : DE X pu b tb) (hs : starEach [a, b] X.env = (false, eval a X.env) :: starEach [b] X.env := by rfl) (hs2 : starEach [b] X.env = (false, eval b X.env) :: starEach [] X.env := by rfl)
    (hpl : (backTo pos (starEach [b] X.env)).any (·.1) = false := by rfl) : DI X pu (.Tuple elts kk tpos) (.Call (.Name "zip" p) [a, b] [] pos) (iZip ta tb) := by
  intro as F μ H σ ρ k st rh h
  refine WI.of (RZ.pi_zipA hg hm (pa_cons WE.pe (pa_cons WE.pe pa_nil hs2) hs) hs hpl) ((ha as F μ H σ ρ _ st rh h).mono fun v H1 ⟨as1, F1, μ1, x, o1, s1, r1, q1⟩ => ?_)
  refine (hb as1 F1 μ1 H1 σ ρ _ s1 (rh.mono o1.ge) q1).mono fun w H2 ⟨as2, F2, μ2, y, o2, s2, r2, q2⟩ => ?_
  obtain ⟨x', ex, q3⟩ := coldS_some q2
  obtain ⟨y', ey, q4⟩ := coldS_some q3
  subst ex ey
  have r1' := r1.mono o2.ge
  cases x' with
  | lst xs =>
    cases y' with
    | lst ys =>
      simp only [RepS, Rep] at r1' r2
      obtain ⟨l, vs, rfl, h1, h2⟩ := r1'
      obtain ⟨r, ws, rfl, h3, h4⟩ := r2
      exact ⟨l, r, vs, ws, rfl, .inl ⟨SqL.of (s2.le _ _ h1), SqL.of (s2.le _ _ h3), as2, F2, μ2, _, o1.trans o2, s2, yzip h1 h3 h2 h4, q4⟩⟩
    | _ => exact q4.elim
  | tup xs =>
    cases y' with
    | tup ys =>
      simp only [RepS, Rep] at r1' r2
      obtain ⟨l, vs, rfl, h1, h2⟩ := r1'
      obtain ⟨r, ws, rfl, h3, h4⟩ := r2
      exact ⟨l, r, vs, ws, rfl, .inr ⟨SqT.of (s2.le _ _ h1), SqT.of (s2.le _ _ h3), as2, F2, μ2, _, o1.trans o2, s2, yzipT h1 h3 h2 h4, q4⟩⟩
    | _ => exact q4.elim
  | _ => cases y' <;> exact q4.elim
/-! ### i ** j -/
def CP (i j : Int) : Prop := 1 < i ∧ i < 2 ^ 300 ∧ 0 < j ∧ j ≤ 100
abbrev powD := intD CP fun i j => .int (i ^ j.toNat)
theorem d2_pow : D2 X (binaryOp .Pow) powD := d2_int (C := CP) (g := fun i j => .int (i ^ j.toNat)) (opI fun i j t u s Q E hc q => by
    obtain ⟨h1, h2, h3, h4⟩ := hc
    refine AutoIntOps.pow_4 (by omega) (by simp; omega) (by simp; omega) (by simp; omega) ?_ q
    have hb : Builtin.Int.intBits i ≤ 300 := intBits_le_iff.mpr (by omega)
    unfold Builtin.Int.intTooBig bitsLine
    have : ((Builtin.Int.intBits i : Nat) : Int) * j ≤ 300 * 100 := Int.mul_le_mul (by omega) h4 (by omega) (by omega)
    simp
    omega) (fun _ _ h => h) fun _ _ _ => by simp only [Rep]
end
end DL
/-! ## DL22 -/
namespace DL
open PySem PySem.Spec PyProof.Rows L2
/-! ### objects: methods, __init__, == -/
section
variable {P : Program} {w : World} {K : PySem.W.Frag} {mg : Str → Option Value} {base : Heap} {x qual m : Str} {st : Stmt} {f C : Addr} {fd : FuncData} {N ps : List Str} {k : Nat} {t : RS}
/-- a def's promise by its body -/
theorem fnOk_of {sp : Spec} (F : Fun K x qual st f fd) (S : FnScope N ps (defScope st)) (len : ∀ ss n kk, sp ss n kk → ss.length = ps.length)
    (hbody : ∀ (cdv : Value) (A : Around) (outer : List Env) (s : Shared) (H : Hp) (E : XK) (pu : Option Addr), Room k (A.deeper (envOfC qual (defScope st) s.heap.objs.size f cdv)) → DSs (cxOf CX0 P w K mg base N qual (defScope st) f cdv A outer s H E).nox pu (defBody st) t)
    (hsp : ∀ ss n kk, sp ss n kk → t (ends kk) (rho0 N ss) ⟨[], n⟩) : FnOk P w K mg base CX0 (k + 1) f fd ps (spOf sp) := by
  refine F.ok S (fun vs H Q E h => ?_) (fun cdv A outer s H vs Q E hr h => ?_)
  · obtain ⟨pu, Fz, n, ss, kk, st0, r, h1, h2⟩ := h
    rw [← len ss n kk h1]
    exact RepSs.length r
  · obtain ⟨pu, Fz, n, ss, kk, st0, r, h1, h2⟩ := h
    refine ⟨_, WSs.pss, ((hbody cdv A outer s H E pu hr) [] Fz ⟨[], n⟩ H _ _ (ends kk) st0 (r.begin N) (hsp ss n kk h1)).mono ⟨?_, ?_, ?_, ?_⟩⟩
    · rintro σ' H' ⟨as', F', μ', ρ', o, s', rh, q⟩
      exact h2 .non F' H' μ'.n .non ⟨⟨fun n a e => by simp at e, o.ge.ext⟩, o.keep, o.new, fun a h => by simp at h, o.alive⟩ s'.forget rep_non q
    · rintro v H' ⟨as', F', μ', d, o, s', rd, q⟩
      exact h2 v F' H' μ'.n d ⟨⟨fun n a e => by simp at e, o.ge.ext⟩, o.keep, o.new, fun a h => by simp at h, o.alive⟩ s'.forget rd q
    · rintro σ' H' ⟨as', F', μ', ρ', o, s', rh, q⟩
      exact q.elim
    · rintro σ' H' ⟨as', F', μ', ρ', o, s', rh, q⟩
      exact q.elim
theorem mtD_of {sp : Spec} (F : FnOk P w K mg base CX0 k f fd ps (spOf sp)) (c : Cls K C) (hm : Meth K C m f) (hb : Binds K fd ps []) : MtD P w K mg base k C m sp := ⟨f, fd, ps, F, c, hm, hb⟩
theorem MtD.mono {j : Nat} {sp : Spec} (G : MtD P w K mg base j C m sp) (h : j ≤ k) : MtD P w K mg base k C m sp := by
  obtain ⟨f, fd, ps, F, c, hm, hb⟩ := G.ok
  exact ⟨f, fd, ps, F.mono h, c, hm, hb⟩
/-- the ends of an __init__ -/
def endsI (C : Addr) (k : List (Str × D) → Nat → Prop) : EndsD := { nx := fun _ μ => ∃ fs, μ.hot[0]? = some (.obj C fs) ∧ k fs μ.n, rt := fun _ _ => False }
theorem inD_of {sp : SpecI} (F : Fun K m qual st f fd) (S : FnScope N ps (defScope st)) (M : Mk K C f) (hm : mg x = some (.ref C)) (hb : Binds K fd ps []) (len : ∀ ss n kk, sp ss n kk → ss.length + 1 = ps.length)
    (hbody : ∀ (cdv : Value) (A : Around) (outer : List Env) (s : Shared) (H : Hp) (E : XK) (pu : Option Addr), Room k (A.deeper (envOfC qual (defScope st) s.heap.objs.size f cdv)) → DSs (cxOf CX0 P w K mg base N qual (defScope st) f cdv A outer s H E).nox pu (defBody st) t)
    (hsp : ∀ ss n kk, sp ss n kk → t (endsI C kk) (rho0 N (.hot 0 :: ss)) ⟨[.obj C []], n⟩) : InD P w K mg base (k + 1) x C sp := by
  refine ⟨f, fd, ps, F.ok S (fun vs H Q E h => ?_) (fun cdv A outer s H vs Q E hr h => ?_), M, hm, hb⟩
  · obtain ⟨pu, Fz, n, y, us, ss, kk, rfl, st0, r, h1, h2⟩ := h
    rw [← len ss n kk h1, List.length_cons, r.length]
  · obtain ⟨pu, Fz, n, y, us, ss, kk, rfl, st0, r, h1, h2⟩ := h
    have r2 : RepSs pu [y] Fz (.hot 0 :: ss) (.ref y :: us) := .cons ⟨y, rfl, rfl⟩ (r.mono ⟨fun n a e => by simp at e, Same.refl _⟩)
    refine ⟨_, WSs.pss, ((hbody cdv A outer s H E pu hr) [y] Fz ⟨[.obj C []], n⟩ H _ _ (endsI C kk) st0 (r2.begin N) (hsp ss n kk h1)).mono ⟨?_, ?_, ?_, ?_⟩⟩
    · rintro σ' H' ⟨as', F', μ', ρ', o, s', rh, fs, q1, q2⟩
      exact h2 as' F' μ' H' fs o s' (o.ge.pre 0 y rfl) q1 q2
    · rintro v H' ⟨as', F', μ', d, o, s', rd, q⟩
      exact q.elim
    · rintro σ' H' ⟨as', F', μ', ρ', o, s', rh, q⟩
      exact q.elim
    · rintro σ' H' ⟨as', F', μ', ρ', o, s', rh, q⟩
      exact q.elim
/-- the own ==: it answers True -/
structure EqD (P : Program) (w : World) (K : PySem.W.Frag) (mg : Str → Option Value) (base : Heap) (k : Nat) (C : Addr) (sp : Spec) : Prop where
  ok : ∃ (f : Addr) (fd : FuncData) (ps : List Str), FnOk P w K mg base CX0 k f fd ps (spOf sp) ∧ PySem.W.findIn K (.ref C) "__eq__" = some (some (.ref f)) ∧ PySem.W.isFn K (.ref f) = true ∧ Binds K fd ps []
end
section
variable {X : Cx} {pu : Option Addr} {e e2 o a b : Expr} {te te2 to ta tb : RE} {p pos apos tpos cpos : Pos}
def RelO (sp : Spec) (da db : D) : Addr → Addr → Hp → Prop := fun x y H => ∃ F n, Sta none [] F ⟨[], n⟩ H ∧ Rep F da (.ref x) ∧ Rep F db (.ref y) ∧ sp [.c da, .c db] n fun d _ => d = .bl true
def objP (C : Addr) : D → (D → Prop) → Prop
  | .obj C' fs, k => C' = C ∧ k (.obj C' fs)
  | _, _ => False
def rEqO (C : Addr) (sp : Spec) (ta tb : RE) : RE := fun ρ μ k => ta ρ μ fun x μ1 => tb ρ μ1 fun y μ2 => coldS x fun x => coldS y fun y => objP C x fun x => objP C y fun y => sp [.c x, .c y] μ2.n (fun d _ => d = .bl true) ∧ k (.c (.bl true)) μ2
theorem objP_some {C : Addr} {d : D} {k : D → Prop} (h : objP C d k) : ∃ fs, d = .obj C fs ∧ k (.obj C fs) := by
  cases d with
  | obj C' fs => obtain ⟨rfl, h⟩ := h; exact ⟨fs, rfl, h⟩
  | _ => exact h.elim
theorem Ext_of_out {F F' H H' : Hp} (o : Out none [] F H [] F' H') : Ext H H' := fun a u e => o.keep a u e (by simp) (by simp)
theorem de_eqO {k : Nat} {C : Addr} {sp : Spec} (G : EqD X.prog X.w X.K X.mg X.base k C sp) (hr : Room k X.A) (ha : DE X pu a ta) (hb : DE X pu b tb) (hm : behindInMarks .Eq b = false := by rfl) :
    DE X pu (.Compare a [.Eq] [b] pos) (rEqO C sp ta tb) := by
  intro as F μ H σ ρ kk st rh h
  obtain ⟨f, fd, ps, F0, hs, hf, hbd⟩ := G.ok
  refine WE.of (pe_cmpR W2.op WE.pe WE.pe hm) (seq2 ha hb st rh h fun as' F' H' μ' dx dy x y o s r1 r2 q => ?_)
  obtain ⟨x', ex, q1⟩ := coldS_some q
  obtain ⟨y', ey, q2⟩ := coldS_some q1
  subst ex ey
  obtain ⟨fx, rfl, q3⟩ := objP_some q2
  obtain ⟨fy, rfl, q4, q5⟩ := objP_some q3
  have R1 := r1
  have R2 := r2
  simp only [RepS, Rep] at R1 R2
  obtain ⟨xa, dx, us, rfl, h1, h2⟩ := R1
  obtain ⟨ya, dy, vs, rfl, h3, h4⟩ := R2
  have s0 : Sta none [] F' ⟨[], μ'.n⟩ H' := ⟨s.le, rfl, List.nodup_nil, fun n a c e _ => by simp at e, fun a h => by simp at h, fun p e => by cases e⟩
  have F1 : FnOk X.prog X.w X.K X.mg X.base CX0 k f fd ps (spEq (RelO sp (.obj C fx) (.obj C fy))) := F0.imp fun vs H Q E q => by
    obtain ⟨xa, ya, rfl, ⟨F, n, t1, t2, t3, t4⟩, q⟩ := q
    refine ⟨none, F, n, [.c (.obj C fx), .c (.obj C fy)], _, t1, .cons t2 (.cons t3 .nil), t4, fun v F' H' n' d o st' r e => ?_⟩
    subst e
    simp only [Rep] at r
    subst r
    exact q H' (Ext_of_out o)
  refine W2.of (op_eqG (rcG_ins F1 hs hf hbd pass0) hr) ⟨⟨xa, ya, dx, dy, us, vs, rfl, rfl, s.le _ _ h1, s.le _ _ h3, F', μ'.n, s0, r1, r2, q4⟩, fun H2 e => ?_⟩
  obtain ⟨s3, o3, _⟩ := s.grow (H' := H2) (N := fun _ => False) (fun b u z => e _ _ z) fun _ z => z.elim
  exact ⟨as', _, μ', .c (.bl true), o.trans o3, s3, rep_bl (F := DL.grow F' H2 fun _ => False) (b := true), q5⟩
theorem dt_eqO {k : Nat} {C : Addr} {sp : Spec} (G : EqD X.prog X.w X.K X.mg X.base k C sp) (hr : Room k X.A) (ha : DE X pu a ta) (hb : DE X pu b tb) (hm : behindInMarks .Eq b = false := by rfl) :
    DT X pu (.Compare a [.Eq] [b] pos) (rT (rEqO C sp ta tb)) := by
  intro as F μ H σ ρ kk st rh h
  obtain ⟨f, fd, ps, F0, hs, hf, hbd⟩ := G.ok
  refine WT.of (pt_cmpR W2.op WE.pe WE.pe hm) (seq2 (R := fun x y H2 => W2 X (compareOp .Eq) x y H2 fun x H' => ∃ k, x = .bl k ∧ Qb pu as F H kk k H') ha hb st rh h fun as' F' H' μ' dx dy x y o s r1 r2 q => ?_)
  obtain ⟨x', ex, q1⟩ := coldS_some q
  obtain ⟨y', ey, q2⟩ := coldS_some q1
  subst ex ey
  obtain ⟨fx, rfl, q3⟩ := objP_some q2
  obtain ⟨fy, rfl, q4, q5⟩ := objP_some q3
  have R1 := r1
  have R2 := r2
  simp only [RepS, Rep] at R1 R2
  obtain ⟨xa, dx, us, rfl, h1, h2⟩ := R1
  obtain ⟨ya, dy, vs, rfl, h3, h4⟩ := R2
  have s0 : Sta none [] F' ⟨[], μ'.n⟩ H' := ⟨s.le, rfl, List.nodup_nil, fun n a c e _ => by simp at e, fun a h => by simp at h, fun p e => by cases e⟩
  have F1 : FnOk X.prog X.w X.K X.mg X.base CX0 k f fd ps (spEq (RelO sp (.obj C fx) (.obj C fy))) := F0.imp fun vs H Q E q => by
    obtain ⟨xa, ya, rfl, ⟨F, n, t1, t2, t3, t4⟩, q⟩ := q
    refine ⟨none, F, n, [.c (.obj C fx), .c (.obj C fy)], _, t1, .cons t2 (.cons t3 .nil), t4, fun v F' H' n' d o st' r e => ?_⟩
    subst e
    simp only [Rep] at r
    subst r
    exact q H' (Ext_of_out o)
  refine W2.of (op_eqG (rcG_ins F1 hs hf hbd pass0) hr) ⟨⟨xa, ya, dx, dy, us, vs, rfl, rfl, s.le _ _ h1, s.le _ _ h3, F', μ'.n, s0, r1, r2, q4⟩, fun H2 e => ?_⟩
  obtain ⟨s3, o3, _⟩ := s.grow (H' := H2) (N := fun _ => False) (fun b u z => e _ _ z) fun _ z => z.elim
  exact ⟨true, rfl, as', _, μ', o.trans o3, s3, q5⟩
/-! ### a written dict of kinds -/
def kindS : List Str := ["says", "hears", "done"]
structure TurnAt (K : PySem.W.Frag) (w : World) (mg : Str → Option Value) (x : Str) : Prop where
  ex : ∃ d es n, mg x = some (.ref d) ∧ KDict K w d es n ∧ ∀ z ∈ kindS, ∃ u, PySem.W.nsIn K d z = some (some u)
def rTur (b : Bool) (te : RE) : RE := fun ρ μ k => te ρ μ fun s μ1 => strD (μ1.rd s) fun z => z ∈ kindS ∧ k (.c (.bl b)) μ1
theorem de_ntur {x : Str} {p2 : Pos} (T : TurnAt X.K X.w X.mg x) (hg : Gl X x) (he : DE X pu e te) (hd : (x == ("__debug__" : Str)) = false := by decide) (hm : behindInMarks .NotIn (.Name x p2) = false := by rfl) : DE X pu (.Compare e [.NotIn] [.Name x p2] pos) (rTur false te) := by
  intro as F μ H σ ρ k st rh h
  obtain ⟨d, es, n, hx, D, hz⟩ := T.ex
  refine WE.of (pe_cmpR (op_notIn_kd D) WE.pe (pe_glob hg hx (v := .ref d) rfl hd) hm) ((he as F μ H σ ρ _ st rh h).mono fun v H1 ⟨as1, F1, μ1, s, o1, s1, r1, q1⟩ => ?_)
  obtain ⟨z, e1, q2, q3⟩ := strD_some q1
  have ra := s1.rd r1
  rw [e1] at ra
  obtain ⟨u, eu⟩ := hz z q2
  exact ⟨z, some u, ra, rfl, eu, as1, F1, μ1, .c (.bl false), o1, s1, rep_bl (F := F1) (b := false), q3⟩
theorem dt_ntur {x : Str} {p2 : Pos} (T : TurnAt X.K X.w X.mg x) (hg : Gl X x) (he : DE X pu e te) (hd : (x == ("__debug__" : Str)) = false := by decide) (hm : behindInMarks .NotIn (.Name x p2) = false := by rfl) : DT X pu (.Compare e [.NotIn] [.Name x p2] pos) (rT (rTur false te)) := by
  intro as F μ H σ ρ k st rh h
  obtain ⟨d, es, n, hx, D, hz⟩ := T.ex
  refine WT.of (pt_cmpR (op_notIn_kd D) WE.pe (pe_glob hg hx (v := .ref d) rfl hd) hm) ((he as F μ H σ ρ _ st rh h).mono fun v H1 ⟨as1, F1, μ1, s, o1, s1, r1, q1⟩ => ?_)
  obtain ⟨z, e1, q2, q3⟩ := strD_some q1
  have ra := s1.rd r1
  rw [e1] at ra
  obtain ⟨u, eu⟩ := hz z q2
  exact ⟨z, some u, ra, rfl, eu, false, rfl, as1, F1, μ1, o1, s1, q3⟩
end
end DL
/-! ## DL23 -/
namespace DL
open PySem PySem.Spec PyProof.Rows L2
/-! ### the purse: read and stored -/
def purOk : Nat → Nat → Int → Prop
  | 0, _, v => 0 ≤ v ∧ v < 10 ^ 480
  | 1, _, v => 0 ≤ v ∧ v < 2147483629
  | 2, n, v => 0 ≤ v ∧ v ≤ n
  | 3, _, v => 0 ≤ v ∧ v < 100
  | _, _, _ => False
def isPur : Option S → Prop → Prop
  | some .pur, P => P
  | _, _ => False
theorem isPur_some {o : Option S} {P : Prop} (h : isPur o P) : o = some .pur ∧ P := by
  cases o with
  | none => exact h.elim
  | some s =>
    cases s with
    | pur => exact ⟨rfl, h⟩
    | _ => exact h.elim
/-- purse[i], i written -/
def rPur (j i : Nat) : RE := fun ρ μ k => isPur (nth ρ j) (∀ v, purOk i μ.n v → k (.c (.int v)) μ)
/-- purse[i] = e -/
def rPurSet (j i : Nat) (te : RE) : RS := fun N ρ μ => te ρ μ fun d μ1 => isI (μ1.rd d) fun v => isPur (nth ρ j) (purOk i (μ1.n + (if i = 2 then 1 else 0)) v ∧ N.nx ρ ⟨μ1.hot, μ1.n + (if i = 2 then 1 else 0)⟩)
theorem PurseAt.get {H : Hp} {p : Addr} {n : Nat} (h : PurseAt H p n) : ∃ vs : List Int, vs.length = 4 ∧ H p = some (.lst (vs.map V.int)) ∧ ∀ i, i < 4 → purOk i n (vs.getD i 0) := by
  obtain ⟨a, b, c, d, h0, h1⟩ := h
  refine ⟨[a, b, c, d], rfl, h0, fun i hi => ?_⟩
  match i, hi with
  | 0, _ => exact ⟨h1.1, h1.2.1⟩
  | 1, _ => exact ⟨h1.2.2.1, h1.2.2.2.1⟩
  | 2, _ => exact ⟨h1.2.2.2.2.1, h1.2.2.2.2.2.1⟩
  | 3, _ => exact ⟨h1.2.2.2.2.2.2.1, h1.2.2.2.2.2.2.2⟩
theorem purOk_mono {i n m : Nat} {v : Int} (h : purOk i n v) (hn : n ≤ m) : purOk i m v := by
  match i, h with
  | 0, h => exact h
  | 1, h => exact h
  | 2, h => exact ⟨h.1, by have := h.2; omega⟩
  | 3, h => exact h
theorem PurseAt.mk {H : Hp} {p : Addr} {n : Nat} {vs : List Int} (hl : vs.length = 4) (h : H p = some (.lst (vs.map V.int))) (ok : ∀ i, i < 4 → purOk i n (vs.getD i 0)) : PurseAt H p n := by
  match vs, hl with
  | [a, b, c, d], _ =>
    have h0 := ok 0 (by decide)
    have h1 := ok 1 (by decide)
    have h2 := ok 2 (by decide)
    have h3 := ok 3 (by decide)
    exact ⟨a, b, c, d, h, h0.1, h0.2, h1.1, h1.2, h2.1, h2.2, h3.1, h3.2⟩
/-- the purse is written -/
theorem Sta.pursed {p : Addr} {as : List Addr} {F H : Hp} {μ : Mu} {n' : Nat} {o : HO} (st : Sta (some p) as F μ H) (hp : PurseAt (upd H p o) p n') : Sta (some p) as F ⟨μ.hot, n'⟩ (upd H p o) ∧ Out (some p) as F H as F (upd H p o) := by
  obtain ⟨hf, _⟩ := st.pur p rfl
  refine ⟨⟨fun b u e => ?_, st.len, st.nd, fun m b d h1 h2 => ?_, fun b hb => ?_, fun q e => ?_⟩, ⟨.refl, fun b u e hb _ => ?_, fun b e => .inl e, fun b h => .inl h, fun b h => ?_⟩⟩
  · rw [upd_ne (ne_of_none e hf)]; exact st.le b u e
  · have hm : b ∈ as := List.mem_of_getElem? h1
    have hne : b ≠ p := fun e => (st.live b hm).2 (by rw [e])
    refine (st.hot m b d h1 h2).mono (Same.refl _) ?_ (upd_ne hne)
    cases e : F b with
    | none => exact .inl rfl
    | some x => right; intro _ z; cases z
  · have hne : b ≠ p := fun e => (st.live b hb).2 (by rw [e])
    rw [upd_ne hne]; exact st.live b hb
  · cases e
    exact ⟨hf, hp⟩
  · rw [upd_ne (fun (z : b = p) => hb (by rw [z]))]; exact e
  · by_cases e : b = p
    · subst e; rw [upd_same]; simp
    · rw [upd_ne e]; exact h
section
variable {X : Cx} {pu : Option Addr} {e : Expr} {te : RE} {pos px pi pos' : Pos}
theorem de_pur (j i : Nat) {x : Str} {kk : Nat} (hi : i < 4) (hN : X.N[j]? = some x := by rfl) (hv : Vis X.env.scope x := by first | exact Or.inl rfl | exact Or.inr (Or.inl rfl) | exact Or.inr (Or.inr rfl)) (hd : (x == ("__debug__" : Str)) = false := by decide)
    (hcd : (x == ("__classdict__" : Str)) = false := by decide) (hs : PlainIx (.Constant (.int (i : Int)) kk pi) := by exact fun _ _ => rfl) : DE X pu (.Subscript (.Name x px) (.Constant (.int (i : Int)) kk pi) pos) (rPur j i) := by
  intro as F μ H σ ρ k st rh h
  obtain ⟨e1, q⟩ := isPur_some h
  obtain ⟨v, hv', p, hp, rfl⟩ := rh.2 j .pur (nth_get e1)
  refine WE.of (pe_ix ix_list (pe_var hN hv hd hcd) pe_int hs) ?_
  obtain ⟨_, pa⟩ := st.pur p hp
  obtain ⟨vs, hl, hH, ok⟩ := pa.get
  have hlt : i < vs.length := by rw [hl]; exact hi
  refine ⟨_, hv', p, vs.map V.int, i, .int (vs.getD i 0), rfl, rfl, SqL.of hH, ?_, .of (d := .c (.int (vs.getD i 0))) .refl st (rep_int (F := F)) (q _ (ok i hi))⟩
  unfold L2.atI L2.ixN
  rw [if_pos (by omega), if_pos (by simpa using hlt)]
  simp [hlt]
theorem ds_pur (j i : Nat) {x : Str} {kk : Nat} (hi : i < 4) (he : DE X pu e te) (hN : X.N[j]? = some x := by rfl) (hv : Vis X.env.scope x := by first | exact Or.inl rfl | exact Or.inr (Or.inl rfl) | exact Or.inr (Or.inr rfl)) (hd : (x == ("__debug__" : Str)) = false := by decide)
    (hcd : (x == ("__classdict__" : Str)) = false := by decide) (hs : swapsWithSole [.Subscript (.Name x px) (.Constant (.int (i : Int)) kk pi) pos'] e pos.line X.env = pure false := by rfl) (hw : swappedStores [.Subscript (.Name x px) (.Constant (.int (i : Int)) kk pi) pos'] e X.env = pure none := by rfl)
    (h1 : (assignEach [.Subscript (.Name x px) (.Constant (.int (i : Int)) kk pi) pos'] X.env).map (·.2) = [assign (.Subscript (.Name x px) (.Constant (.int (i : Int)) kk pi) pos') X.env] := by rfl)
    (ha : ∀ v, assign (.Subscript (.Name x px) (.Constant (.int (i : Int)) kk pi) pos') X.env v = (do
      let ov ← holding [v] (eval (.Name x px) X.env)
      let iv ← holding [v, ov] (eval (.Constant (.int (i : Int)) kk pi) X.env)
      standAt pos'
      holding [v, ov, iv] (setItem ov iv v)
      release [v, ov, iv] []) := by intro _; rfl) :
    DS X pu (.Assign [.Subscript (.Name x px) (.Constant (.int (i : Int)) kk pi) pos'] e pos) (rPurSet j i te) := by
  intro as F μ H σ ρ N st rh h
  refine WS.of (ps_asg WE.pe (pg_sub (pe_var hN hv hd hcd) pe_int set_list ha) hs hw h1) ((he as F μ H σ ρ _ st rh h).mono fun w H1 ⟨as1, F1, μ1, d, o1, s1, r1, q1⟩ => ?_)
  obtain ⟨z, e0, q2⟩ := isI_some q1
  obtain ⟨e1, hz, q3⟩ := isPur_some q2
  have ra := s1.rd r1
  rw [e0] at ra
  cases (show w = _ from ra)
  obtain ⟨v, hv', p, hp, rfl⟩ := (rh.mono o1.ge).2 j .pur (nth_get e1)
  subst hp
  obtain ⟨hf, pa⟩ := s1.pur p rfl
  obtain ⟨vs, hl, hH, ok⟩ := pa.get
  have hlt : i < vs.length := by rw [hl]; exact hi
  refine ⟨_, hv', p, vs.map V.int, i, i, rfl, rfl, hH, by unfold L2.ixN; rw [if_pos (by omega), if_pos (by simpa using hlt)]; simp, ?_⟩
  have hp2 : PurseAt (upd H1 p (.lst ((vs.map V.int).set i (.int z)))) p (μ1.n + (if i = 2 then 1 else 0)) := by
    refine PurseAt.mk (vs := vs.set i z) (by simpa using hl) (by rw [upd_same, List.map_set]) fun m hm => ?_
    by_cases e : m = i
    · subst e
      simpa [hlt] using hz
    · rw [List.getD_eq_getElem?_getD, List.getElem?_set_ne (Ne.symm e), ← List.getD_eq_getElem?_getD]
      exact purOk_mono (ok m hm) (Nat.le_add_right _ _)
  obtain ⟨s2, o2⟩ := s1.pursed hp2
  exact ⟨as1, F1, _, ρ, o1.trans o2, s2, (rh.mono o1.ge).mono o2.ge, q3⟩
end
end DL
/-! ## DL24 -/
namespace DL
open PySem PySem.Spec PyProof.Rows L2
/-! ### < of tuples, of lists -/
mutual
def dlt : D → D → Bool
  | .int i, .int j => decide (i < j)
  | .str a, .str b => slt a b
  | .tup as, .tup bs => dlts as bs
  | .lst as, .lst bs => dlts as bs
  | _, _ => false
def dlts : List D → List D → Bool
  | [], bs => !bs.isEmpty
  | _ :: _, [] => false
  | a :: as, b :: bs => if eqb a b = true then dlts as bs else dlt a b
end
mutual
def ltOk : D → D → Bool
  | .int _, .int _ => true
  | .str _, .str _ => true
  | .tup as, .tup bs => ltOks as bs
  | .lst as, .lst bs => ltOks as bs
  | _, _ => false
def ltOks : List D → List D → Bool
  | a :: as, b :: bs => seqD a && seqD b && ltOk a b && ltOks as bs
  | _, _ => true
end
open SeqAt in
theorem firstLt_dlts : ∀ (as bs : List D) (i : Nat) (e r : Nat → Bool), (∀ k, e (i + k) = eqb (as.getD k .non) (bs.getD k .non)) → (∀ k, r (i + k) = dlt (as.getD k .non) (bs.getD k .non)) →
    firstLt e r (decide (as.length < bs.length)) (List.range' i (min as.length bs.length)) = dlts as bs
  | [], [], i, e, r, _, _ => by simp [firstLt, dlts]
  | [], b :: bs, i, e, r, _, _ => by simp [firstLt, dlts]
  | a :: as, [], i, e, r, _, _ => by simp [firstLt, dlts]
  | a :: as, b :: bs, i, e, r, he, hr => by
    have h0 : e i = eqb a b := he 0
    have h1 : r i = dlt a b := hr 0
    have ih := firstLt_dlts as bs (i + 1) e r (fun k => by rw [show i + 1 + k = i + (k + 1) by omega, he]; rfl) (fun k => by rw [show i + 1 + k = i + (k + 1) by omega, hr]; rfl)
    rw [List.length_cons, List.length_cons, show min (as.length + 1) (bs.length + 1) = min as.length bs.length + 1 by omega, List.range'_succ]
    simp only [dlts]
    cases hq : eqb a b with
    | true =>
      rw [firstLt_yes (h0.trans hq), if_pos rfl, ← ih]
      congr 1
      simp
    | false =>
      rw [firstLt_no (h0.trans hq), if_neg (by decide), h1]
open SeqAt in
theorem firstLt_dlts0 {as bs : List D} : firstLt (fun j => eqb (as.getD j .non) (bs.getD j .non)) (fun j => dlt (as.getD j .non) (bs.getD j .non)) (decide (as.length < bs.length)) (List.range (min as.length bs.length)) = dlts as bs := by
  rw [List.range_eq_range']
  exact firstLt_dlts as bs 0 _ _ (fun k => by rw [Nat.zero_add]) (fun k => by rw [Nat.zero_add])
theorem ltOks_at : ∀ {as bs : List D}, ltOks as bs = true → ∀ (j : Nat) (a b : D), as[j]? = some a → bs[j]? = some b → seqD a = true ∧ seqD b = true ∧ ltOk a b = true
  | [], _, _, _, _, _, h, _ => by simp at h
  | _ :: _, [], _, _, _, _, _, h => by simp at h
  | a :: as, b :: bs, h, 0, x, y, h1, h2 => by
    simp only [ltOks, Bool.and_eq_true] at h
    simp at h1 h2
    subst h1 h2
    exact ⟨h.1.1.1, h.1.1.2, h.1.2⟩
  | a :: as, b :: bs, h, j + 1, x, y, h1, h2 => by
    simp only [ltOks, Bool.and_eq_true] at h
    exact ltOks_at h.2 j x y (by simpa using h1) (by simpa using h2)
section
variable {X : Cx} {pins : List (Addr × Obj)} {σ : L2.St} {F H : Hp} {s : Shared}
mutual
theorem ltAt_D (I : Inv X pins σ H s) (le : Same F H) : ∀ (a b : D) {x y : V} {v u : Value} {A : Around}, ltOk a b = true → RdAt F H a x → RdAt F H b y → RelV x v → RelV y u → A.units + dep a < cLine → SeqAt.RcLt A s v u (dlt a b)
  | .int i, b, x, y, v, u, A, ok, ra, rb, rx, ry, hu => by
    cases (show x = V.int i from ra)
    cases b with
    | int j =>
      cases (show y = V.int j from rb)
      obtain ⟨t, rfl⟩ := rx
      obtain ⟨t', rfl⟩ := ry
      exact fun _ _ _ _ h => lt_int h
    | _ => simp [ltOk] at ok
  | .str i, b, x, y, v, u, A, ok, ra, rb, rx, ry, hu => by
    cases (show x = V.str i from ra)
    cases b with
    | str j =>
      cases (show y = V.str j from rb)
      obtain ⟨t, rfl⟩ := rx
      obtain ⟨t', rfl⟩ := ry
      exact fun _ _ _ _ h => lt_str h
    | _ => simp [ltOk] at ok
  | .tup as, b, x, y, v, u, A, ok, ra, rb, rx, ry, hu => by
    cases b with
    | tup bs =>
      simp only [ltOk] at ok
      obtain ⟨p, vs, rfl, h1, h2⟩ := ra
      obtain ⟨q, us, rfl, h3, h4⟩ := rb
      cases rx
      cases ry
      obtain ⟨its, rv, pl, _⟩ := I.tuple (SqT.of (le _ _ h1))
      obtain ⟨its2, rv2, pl2, _⟩ := I.tuple (SqT.of (le _ _ h3))
      have hu' : A.units < cLine := by simp only [dep] at hu; omega
      have n1 : its.toArray.size = as.length := by rw [List.size_toArray, ← rv.length, h2.length]
      have n2 : its2.toArray.size = bs.length := by rw [List.size_toArray, ← rv2.length, h4.length]
      have it : ∀ j (j1 : j < its.toArray.size) (j2 : j < its2.toArray.size), ∃ a b xv yv, as[j]? = some a ∧ bs[j]? = some b ∧ as.getD j .non = a ∧ bs.getD j .non = b ∧ Rep F a xv ∧ Rep F b yv ∧ RelV xv its.toArray[j] ∧ RelV yv its2.toArray[j] := fun j j1 j2 => by
        have ja : j < as.length := by omega
        have jb : j < bs.length := by omega
        obtain ⟨xv, e3, r3⟩ := h2.get (i := j) (d := as[j]) (by simp [ja])
        obtain ⟨yv, e4, r4⟩ := h4.get (i := j) (d := bs[j]) (by simp [jb])
        obtain ⟨uv, e5, r5⟩ := rv.get e3
        obtain ⟨uw, e6, r6⟩ := rv2.get e4
        simp only [List.size_toArray] at j1 j2
        have e5' : its.toArray[j] = uv := by
          rw [List.getElem?_eq_getElem j1] at e5
          simpa using e5
        have e6' : its2.toArray[j] = uw := by
          rw [List.getElem?_eq_getElem j2] at e6
          simpa using e6
        exact ⟨as[j], bs[j], xv, yv, by simp [ja], by simp [jb], by simp [List.getD, ja], by simp [List.getD, jb], r3, r4, by rw [e5']; exact r5, by rw [e6']; exact r6⟩
      have R := SeqAt.RcLt.tuples (A := A) (s := s) (e := fun j => eqb (as.getD j .non) (bs.getD j .non)) (r := fun j => dlt (as.getD j .non) (bs.getD j .non)) pl pl2 hu' (fun j j1 j2 => by
        obtain ⟨a, b, xv, yv, g1, g2, g3, g4, r1, r2, r5, r6⟩ := it j j1 j2
        obtain ⟨k1, k2, k3⟩ := ltOks_at ok j a b g1 g2
        have hd : dep a ≤ deps as := deps_get g1
        simp only [g3, g4]
        exact eqAt_D I le a b k1 k2 (r1.rd le) (r2.rd le) r5 r6 (by
          simp only [dep] at hu
          show A.units + 1 + dep a < cLine
          omega)) fun j j1 j2 _ => by
        obtain ⟨a, b, xv, yv, g1, g2, g3, g4, r1, r2, r5, r6⟩ := it j j1 j2
        obtain ⟨k1, k2, k3⟩ := ltOks_at ok j a b g1 g2
        have hd : dep a ≤ deps as := deps_get g1
        simp only [g3, g4]
        exact ltAt_Ds I le as j a g1 b k3 (r1.rd le) (r2.rd le) r5 r6 (by
          simp only [dep] at hu
          show A.units + 1 + dep a < cLine
          omega)
      rw [n1, n2, firstLt_dlts0] at R
      exact R
    | _ => simp [ltOk] at ok
  | .lst as, b, x, y, v, u, A, ok, ra, rb, rx, ry, hu => by
    cases b with
    | lst bs =>
      simp only [ltOk] at ok
      obtain ⟨p, vs, rfl, h1, h2⟩ := ra
      obtain ⟨q, us, rfl, h3, h4⟩ := rb
      cases rx
      cases ry
      obtain ⟨its, rv, pl, _⟩ := I.list (SqL.of h1)
      obtain ⟨its2, rv2, pl2, _⟩ := I.list (SqL.of h3)
      have hu' : A.units < cLine := by simp only [dep] at hu; omega
      have n1 : its.toArray.size = as.length := by rw [List.size_toArray, ← rv.length, h2.length]
      have n2 : its2.toArray.size = bs.length := by rw [List.size_toArray, ← rv2.length, h4.length]
      have it : ∀ j (j1 : j < its.toArray.size) (j2 : j < its2.toArray.size), ∃ a b xv yv, as[j]? = some a ∧ bs[j]? = some b ∧ as.getD j .non = a ∧ bs.getD j .non = b ∧ Rep F a xv ∧ Rep F b yv ∧ RelV xv its.toArray[j] ∧ RelV yv its2.toArray[j] := fun j j1 j2 => by
        have ja : j < as.length := by omega
        have jb : j < bs.length := by omega
        obtain ⟨xv, e3, r3⟩ := h2.get (i := j) (d := as[j]) (by simp [ja])
        obtain ⟨yv, e4, r4⟩ := h4.get (i := j) (d := bs[j]) (by simp [jb])
        obtain ⟨uv, e5, r5⟩ := rv.get e3
        obtain ⟨uw, e6, r6⟩ := rv2.get e4
        simp only [List.size_toArray] at j1 j2
        have e5' : its.toArray[j] = uv := by
          rw [List.getElem?_eq_getElem j1] at e5
          simpa using e5
        have e6' : its2.toArray[j] = uw := by
          rw [List.getElem?_eq_getElem j2] at e6
          simpa using e6
        exact ⟨as[j], bs[j], xv, yv, by simp [ja], by simp [jb], by simp [List.getD, ja], by simp [List.getD, jb], r3, r4, by rw [e5']; exact r5, by rw [e6']; exact r6⟩
      have R := SeqAt.RcLt.lists (A := A) (s := s) (e := fun j => eqb (as.getD j .non) (bs.getD j .non)) (r := fun j => dlt (as.getD j .non) (bs.getD j .non)) pl.isList pl2.isList hu' (fun j j1 j2 => by
        obtain ⟨a, b, xv, yv, g1, g2, g3, g4, r1, r2, r5, r6⟩ := it j j1 j2
        obtain ⟨k1, k2, k3⟩ := ltOks_at ok j a b g1 g2
        have hd : dep a ≤ deps as := deps_get g1
        simp only [g3, g4]
        exact eqAt_D I le a b k1 k2 (r1.rd le) (r2.rd le) r5 r6 (by
          simp only [dep] at hu
          show A.units + 1 + dep a < cLine
          omega)) fun j j1 j2 _ => by
        obtain ⟨a, b, xv, yv, g1, g2, g3, g4, r1, r2, r5, r6⟩ := it j j1 j2
        obtain ⟨k1, k2, k3⟩ := ltOks_at ok j a b g1 g2
        have hd : dep a ≤ deps as := deps_get g1
        simp only [g3, g4]
        exact ltAt_Ds I le as j a g1 b k3 (r1.rd le) (r2.rd le) r5 r6 (by
          simp only [dep] at hu
          show A.units + 1 + dep a < cLine
          omega)
      rw [n1, n2, firstLt_dlts0] at R
      exact R
    | _ => simp [ltOk] at ok
  | .non, b, x, y, v, u, A, ok, ra, rb, rx, ry, hu => by cases b <;> simp [ltOk] at ok
  | .bl _, b, x, y, v, u, A, ok, ra, rb, rx, ry, hu => by cases b <;> simp [ltOk] at ok
  | .ty _, b, x, y, v, u, A, ok, ra, rb, rx, ry, hu => by cases b <;> simp [ltOk] at ok
  | .adr _, b, x, y, v, u, A, ok, ra, rb, rx, ry, hu => by cases b <;> simp [ltOk] at ok
  | .dk _, b, x, y, v, u, A, ok, ra, rb, rx, ry, hu => by cases b <;> simp [ltOk] at ok
  | .dt _, b, x, y, v, u, A, ok, ra, rb, rx, ry, hu => by cases b <;> simp [ltOk] at ok
  | .obj _ _, b, x, y, v, u, A, ok, ra, rb, rx, ry, hu => by cases b <;> simp [ltOk] at ok
theorem ltAt_Ds (I : Inv X pins σ H s) (le : Same F H) : ∀ (as : List D) (j : Nat) (a : D), as[j]? = some a → ∀ (b : D) {x y : V} {v u : Value} {A : Around}, ltOk a b = true → RdAt F H a x → RdAt F H b y → RelV x v → RelV y u → A.units + dep a < cLine → SeqAt.RcLt A s v u (dlt a b)
  | a :: as, 0, x, e, b, _, _, _, _, _, ok, ra, rb, rx, ry, hu => by
    simp at e
    subst e
    exact ltAt_D I le a b ok ra rb rx ry hu
  | a :: as, j + 1, x, e, b, _, _, _, _, _, ok, ra, rb, rx, ry, hu => ltAt_Ds I le as j x (by simpa using e) b ok ra rb rx ry hu
  | [], j, x, e, b, _, _, _, _, _, ok, ra, rb, rx, ry, hu => by simp at e
end
end
end DL
/-! ## DL25 -/
namespace DL
open PySem PySem.Spec PyProof.Rows L2
/-! ### orders -/
structure Sto {α : Type} (lt : α → α → Bool) : Prop where
  irr : ∀ x, lt x x = false
  tr : ∀ x y z, lt x y = true → lt y z = true → lt x z = true
  tri : ∀ x y, lt x y = false → lt y x = false → x = y
theorem Sto.swo {α : Type} {lt : α → α → Bool} (O : Sto lt) : SrtO.Swo lt := by
  refine ⟨fun x y h => ?_, fun x y z h1 h2 => ?_⟩
  · cases e : lt y x with
    | false => rfl
    | true => have := O.tr x y x h e; rw [O.irr] at this; cases this
  · cases e : lt z x with
    | false => rfl
    | true =>
      cases e2 : lt x y with
      | true => have := O.tr z x y e e2; rw [h2] at this; cases this
      | false =>
        have := O.tri x y e2 h1
        subst this
        rw [h2] at e; cases e
def srt {α : Type} (lt : α → α → Bool) (l : List α) : List α := l.mergeSort fun a b => !lt b a
theorem srt_perm {α : Type} (lt : α → α → Bool) (l : List α) : (srt lt l).Perm l := List.mergeSort_perm _ _
theorem srt_sorted {α : Type} {lt : α → α → Bool} (O : Sto lt) (l : List α) : (srt lt l).Pairwise fun x y => lt y x = false := by
  have h := List.pairwise_mergeSort (le := fun a b => !lt b a) (fun a b c h1 h2 => by
    simp only [Bool.not_eq_true'] at *
    exact O.swo.tr a b c h1 h2) (fun a b => by
    cases e : lt b a with
    | false => simp
    | true => simp [O.swo.asym b a e]) l
  exact h.imp fun h => by simpa using h
theorem srt_eq {α : Type} {lt : α → α → Bool} (O : Sto lt) {out l : List α} (p : out.Perm l) (s : out.Pairwise fun x y => lt y x = false) : out = srt lt l :=
  List.Perm.eq_of_pairwise (fun a b _ _ h1 h2 => O.tri a b h2 h1) s (srt_sorted O l) (p.trans (srt_perm lt l).symm)
theorem sto_slt : Sto slt where
  irr := slt_irrefl
  tr := fun x y z h1 h2 => by
    simp only [slt, decide_eq_true_eq] at *
    exact List.lt_trans h1 h2
  tri := fun x y h1 h2 => sle_antisymm x y (by simp [sle, h2]) (by simp [sle, h1])
def ltP (p q : Str × Str) : Bool := slt p.1 q.1 || (decide (p.1 = q.1) && slt p.2 q.2)
theorem sto_ltP : Sto ltP where
  irr := fun x => by simp [ltP, slt_irrefl]
  tr := fun x y z h1 h2 => by
    simp only [ltP, Bool.or_eq_true, Bool.and_eq_true, decide_eq_true_eq] at *
    rcases h1 with h1 | ⟨e1, h1⟩
    · rcases h2 with h2 | ⟨e2, h2⟩
      · exact .inl (sto_slt.tr _ _ _ h1 h2)
      · exact .inl (e2 ▸ h1)
    · rcases h2 with h2 | ⟨e2, h2⟩
      · exact .inl (e1 ▸ h2)
      · exact .inr ⟨e1.trans e2, sto_slt.tr _ _ _ h1 h2⟩
  tri := fun x y h1 h2 => by
    obtain ⟨a, b⟩ := x
    obtain ⟨c, d⟩ := y
    simp only [ltP, Bool.or_eq_false_iff, Bool.and_eq_false_iff, decide_eq_false_iff_not] at h1 h2
    have e := sto_slt.tri _ _ h1.1 h2.1
    subst e
    have e := sto_slt.tri b d (h1.2.resolve_left (by simp)) (h2.2.resolve_left (by simp))
    rw [e]
def lexL {α : Type} [DecidableEq α] (lt : α → α → Bool) : List α → List α → Bool
  | [], bs => !bs.isEmpty
  | _ :: _, [] => false
  | a :: as, b :: bs => if a = b then lexL lt as bs else lt a b
theorem lexL_irr {α : Type} [DecidableEq α] {lt : α → α → Bool} : ∀ l : List α, lexL lt l l = false
  | [] => rfl
  | a :: l => by simp [lexL, lexL_irr l]
theorem lexL_tr {α : Type} [DecidableEq α] {lt : α → α → Bool} (O : Sto lt) : ∀ x y z : List α, lexL lt x y = true → lexL lt y z = true → lexL lt x z = true
  | [], _, [], h1, h2 => by
    rename_i y
    cases y <;> simp [lexL] at h1 h2
  | [], _, _ :: _, _, _ => by simp [lexL]
  | _ :: _, [], _, h1, _ => by simp [lexL] at h1
  | _ :: _, _ :: _, [], _, h2 => by simp [lexL] at h2
  | a :: x, b :: y, c :: z, h1, h2 => by
    simp only [lexL] at *
    by_cases e1 : a = b
    · subst e1
      rw [if_pos rfl] at h1
      by_cases e2 : a = c
      · subst e2
        rw [if_pos rfl] at h2 ⊢
        exact lexL_tr O x y z h1 h2
      · rw [if_neg e2] at h2 ⊢
        exact h2
    · rw [if_neg e1] at h1
      by_cases e2 : b = c
      · subst e2
        rw [if_neg e1]
        exact h1
      · rw [if_neg e2] at h2
        have h3 := O.tr a b c h1 h2
        by_cases e3 : a = c
        · subst e3
          rw [O.irr] at h3
          cases h3
        · rw [if_neg e3]
          exact h3
theorem lexL_tri {α : Type} [DecidableEq α] {lt : α → α → Bool} (O : Sto lt) : ∀ x y : List α, lexL lt x y = false → lexL lt y x = false → x = y
  | [], [], _, _ => rfl
  | [], _ :: _, h1, _ => by simp [lexL] at h1
  | _ :: _, [], _, h2 => by simp [lexL] at h2
  | a :: x, b :: y, h1, h2 => by
    simp only [lexL] at *
    by_cases e : a = b
    · subst e
      rw [if_pos rfl] at h1 h2
      rw [lexL_tri O x y h1 h2]
    · rw [if_neg e] at h1
      rw [if_neg (Ne.symm e)] at h2
      exact absurd (O.tri a b h1 h2) e
theorem sto_lexL {α : Type} [DecidableEq α] {lt : α → α → Bool} (O : Sto lt) : Sto (lexL lt) := ⟨lexL_irr, lexL_tr O, lexL_tri O⟩
/-! ### sorted -/
section
variable {X : Cx} {α : Type} {e : α → D} {lt : α → α → Bool} {F H : Hp}
/-- what is asked of the items -/
structure Sortable (X : Cx) (e : α → D) (lt : α → α → Bool) where
  O : Sto lt
  κ : SortKind
  inj : ∀ x y, e x = e y → x = y
  ok : ∀ x, eqOk (e x) = true
  ref : ∀ (F : Hp) x w, Rep F (e x) w → ∃ a, w = .ref a
  kind : ∀ (pins : List (Addr × Obj)) (σ : L2.St) (F H : Hp) (s : Shared) (A : Around) (xs : List α) (vs : List V) (its : List Value) (Q : SortKind → Shared → Prop) (E : Value → Shared → Prop), Inv X pins σ H s → Same F H → Reps F (xs.map e) vs → Vals vs its → 2 ≤ xs.length → Q κ s → wpAny (model X.prog X.w) A (keyKind' its.toArray) Q E s
  cmp : ∀ (pins : List (Addr × Obj)) (σ : L2.St) (F H : Hp) (s : Shared) (x y : α) (xv yv : V) (v u : Value), Inv X pins σ H s → Same F H → Rep F (e x) xv → Rep F (e y) yv → RelV xv v → RelV yv u → wpAny (model X.prog X.w) X.A.in1.in1 (keyLt' κ v u) (fun r s' => s' = s ∧ r = lt x y) (fun _ _ => False) s
theorem rep_back {a : Addr} {w : V} (h : RelV w (.ref a)) : w = .ref a := by
  cases w with
  | ref b =>
    have h' : Value.ref a = Value.ref b := h
    cases h'
    rfl
  | non => cases (show Value.ref a = Value.none from h)
  | bl b => cases (show Value.ref a = Value.bool b from h)
  | ty b => cases (show Value.ref a = Value.type b from h)
  | int b => obtain ⟨t, h'⟩ := (show ∃ t, Value.ref a = Value.int b t from h); cases h'
  | str b => obtain ⟨t, h'⟩ := (show ∃ t, Value.ref a = Value.str b t from h); cases h'
  | byt b => obtain ⟨t, h'⟩ := (show ∃ t, Value.ref a = Value.bytes b t from h); cases h'
  | flt b => obtain ⟨t, h'⟩ := (show ∃ t, Value.ref a = Value.float b t from h); cases h'
end
end DL
/-! ## DL26 -/
namespace DL
open PySem PySem.Spec PyProof.Rows L2
section
variable {X : Cx} {α : Type} {e : α → D} {lt : α → α → Bool} {F H : Hp}
theorem keys_back (S : Sortable X e lt) {key : Value → α} : ∀ {xs : List α} {vs : List V} {its : List Value}, Reps F (xs.map e) vs → Vals vs its → (∀ v ∈ its, ∃ w, Rep F (e (key v)) w ∧ RelV w v) → its.map key = xs
  | [], vs, its, h, r, _ => by
    simp only [List.map_nil, Reps] at h
    subst h
    cases r
    rfl
  | x :: xs, vs, its, h, r, hk => by
    simp only [List.map_cons, Reps] at h
    obtain ⟨v, t, rfl, h1, h2⟩ := h
    cases r with
    | cons r1 r2 =>
      rename_i u us
      have ih := keys_back S h2 r2 fun v hv => hk v (List.mem_cons_of_mem _ hv)
      obtain ⟨w, g1, g2⟩ := hk u (List.mem_cons_self)
      obtain ⟨a, rfl⟩ := S.ref F x v h1
      obtain ⟨b, rfl⟩ := S.ref F _ w g1
      have e1 : u = .ref a := r1
      have e2 : u = .ref b := g2
      rw [e1] at e2
      cases e2
      have := rep_inj _ _ (S.ok _) (S.ok _) g1 h1
      rw [List.map_cons, ih, S.inj _ _ this]
theorem reps_out {key : Value → α} (S : Sortable X e lt) : ∀ {out : List Value}, (∀ v ∈ out, ∃ w, Rep F (e (key v)) w ∧ RelV w v) → Reps F ((out.map key).map e) (out.map L2.backV) ∧ ∀ u ∈ out, ∃ a, u = Value.ref a
  | [], _ => ⟨by simp only [List.map_nil, Reps], fun u hu => by cases hu⟩
  | u :: out, h => by
    obtain ⟨i1, i2⟩ := reps_out (out := out) S fun v hv => h v (List.mem_cons_of_mem _ hv)
    obtain ⟨w, g1, g2⟩ := h u List.mem_cons_self
    obtain ⟨b, rfl⟩ := S.ref F _ w g1
    have e2 : u = .ref b := g2
    subst e2
    refine ⟨?_, fun u hu => ?_⟩
    · simp only [List.map_cons, Reps]
      exact ⟨_, _, rfl, g1, i1⟩
    · rcases List.mem_cons.mp hu with rfl | hu
      · exact ⟨b, rfl⟩
      · exact i2 u hu
theorem has_keys : ∀ {xs : List α} {vs : List V} {its : List Value}, Reps F (xs.map e) vs → Vals vs its → ∀ v ∈ its, ∃ x, x ∈ xs ∧ ∃ w, Rep F (e x) w ∧ RelV w v
  | [], vs, its, h, r, v, hv => by
    simp only [List.map_nil, Reps] at h
    subst h
    cases r
    cases hv
  | x :: xs, vs, its, h, r, v, hv => by
    simp only [List.map_cons, Reps] at h
    obtain ⟨w, t, rfl, h1, h2⟩ := h
    cases r with
    | cons r1 r2 =>
      rcases List.mem_cons.mp hv with rfl | hv
      · exact ⟨x, List.mem_cons_self, w, h1, r1⟩
      · obtain ⟨y, hy, z⟩ := has_keys h2 r2 v hv
        exact ⟨y, List.mem_cons_of_mem _ hy, z⟩
open Classical in
theorem wc_sort (S : Sortable X e lt) [Inhabited α] {v : V} {xs : List α} {k : D → Prop} (le : Same F H) (ra : RdAt F H (.lst (xs.map e)) v) (q : k (.lst ((srt lt xs).map e))) : WC X (.builtin "sorted") [v] H (Qc F H k) := by
  obtain ⟨p, vs, rfl, h1, h2⟩ := ra
  intro pins s σ us I r
  obtain ⟨its, rv, hl, hz⟩ := I.list (SqL.of h1)
  obtain ⟨u, rfl, ru⟩ := vals1 r
  obtain rfl : u = Value.ref p := ru
  let key : Value → α := fun v => if h : ∃ x, x ∈ xs ∧ ∃ w, Rep F (e x) w ∧ RelV w v then Classical.choose h else default
  have hk0 := has_keys (xs := xs) h2 rv
  have hk : ∀ v ∈ its, ∃ w, Rep F (e (key v)) w ∧ RelV w v := fun v hv => by
    have h := hk0 v hv
    show ∃ w, Rep F (e (dite _ _ _)) w ∧ RelV w v
    rw [dif_pos h]
    exact (Classical.choose_spec h).2
  have hkey := keys_back S h2 rv hk
  have hlen : its.length = xs.length := by rw [← hkey, List.length_map]
  have sw : SrtO.Swo fun v u => lt (key v) (key u) := ⟨fun x y h => S.O.swo.asym _ _ h, fun x y z a b => S.O.swo.tr _ _ _ a b⟩
  refine SrtO.sorted_ord (ltv := fun v u => lt (key v) (key u)) sw hl.isList (by rw [← rv.length]; exact hz) (fun hn h₁ a ha kk => ?_) fun out hs hb => ?_
  · intro h' keep
    have I' : Inv X pins σ H { s with heap := h', toks := s.toks } := I.kept (h' := h') (t' := s.toks) fun b o e => keep b o (kk b o e).1 (kk b o e).2
    refine ⟨S.κ, fun Q E hq => S.kind pins σ F H _ _ xs vs its Q E I' le h2 rv (by omega) hq, fun p q hp hq => ?_⟩
    obtain ⟨w1, a1, a2⟩ := hk _ hp
    obtain ⟨w2, b1, b2⟩ := hk _ hq
    exact S.cmp pins σ F H _ _ _ _ _ _ _ I' le a1 b1 a2 b2
  · have hk' : ∀ v ∈ out, ∃ w, Rep F (e (key v)) w ∧ RelV w v := fun v hv => hk v (hb.perm.mem_iff.mp hv)
    obtain ⟨g1, g2⟩ := reps_out S hk'
    obtain ⟨n, hn⟩ := sortedAll_at s.heap its out.toArray
    have e1 : out.map key = srt lt xs := srt_eq S.O (by rw [← hkey]; exact hb.perm.map key) (List.pairwise_map.mpr hs)
    rw [e1] at g1
    have hd : s.heap.objs.size ≤ s.heap.objs.size + 1 := Nat.le_succ _
    refine ⟨.ref (s.heap.objs.size + 1), upd H (s.heap.objs.size + 1) (.lst (out.map L2.backV)), I.laid (t' := s.toks) (fun b o e => sortedAll_old e) hd ⟨?_, out, n, vals_back g2, hn⟩, rfl, Qc.lst le (I.hok.fresh hd) g1 q⟩
    rw [List.length_map, hb.perm.length_eq, ← rv.length]
    exact hz
end
end DL
/-! ## DL27 -/
namespace DL
open PySem PySem.Spec PyProof.Rows L2
def eP (p : Str × Str) : D := .tup [.str p.1, .str p.2]
def eL (l : List (Str × Str)) : D := .lst (l.map eP)
section
variable {X : Cx} {F H : Hp}
theorem pair_at {pins : List (Addr × Obj)} {σ : L2.St} {s : Shared} (I : Inv X pins σ H s) (le : Same F H) {p : Str × Str} {w : V} {v : Value} (h : Rep F (eP p) w) (r : RelV w v) : ∃ a o n t u, v = .ref a ∧ s.heap.get? a = some o ∧ o.cls = .type "tuple" ∧ o.data = .seq #[.str p.1 t, .str p.2 u] n := by
  obtain ⟨a, vs, rfl, h1, h2⟩ := h
  cases r
  simp only [Reps, Rep] at h2
  obtain ⟨_, _, rfl, rfl, _, _, rfl, rfl, rfl⟩ := h2
  obtain ⟨its, rv, pl, _⟩ := I.tuple (SqT.of (le _ _ h1))
  obtain ⟨u1, u2, rfl, ⟨t, rfl⟩, ⟨u, rfl⟩⟩ := vals2 rv
  obtain ⟨o, ho, hc, n, hd⟩ := pl
  exact ⟨a, o, n, t, u, rfl, ho, hc, hd⟩
theorem tups_of {pins : List (Addr × Obj)} {σ : L2.St} {s : Shared} (I : Inv X pins σ H s) (le : Same F H) : ∀ {xs : List (Str × Str)} {vs : List V} {its : List Value}, Reps F (xs.map eP) vs → Vals vs its → ∃ fs, PySem.W.KatTups s.heap its fs ∧ fs.length = xs.length ∧ ∀ f ∈ fs, ∃ z t, f = Value.str z t
  | [], vs, its, h, r => by
    simp only [List.map_nil, Reps] at h
    subst h
    cases r
    exact ⟨[], .nil, rfl, fun f hf => by cases hf⟩
  | x :: xs, vs, its, h, r => by
    simp only [List.map_cons, Reps] at h
    obtain ⟨w, t, rfl, h1, h2⟩ := h
    cases r with
    | cons r1 r2 =>
      obtain ⟨fs, g1, g2, g3⟩ := tups_of I le h2 r2
      obtain ⟨a, o, n, t, u, rfl, ho, hc, hd⟩ := pair_at I le h1 r1
      refine ⟨.str x.1 t :: fs, .cons ho hc hd rfl g1, by simp [g2], fun f hf => ?_⟩
      rcases List.mem_cons.mp hf with rfl | hf
      · exact ⟨_, _, rfl⟩
      · exact g3 f hf
theorem pair_cmp {pins : List (Addr × Obj)} {σ : L2.St} {s : Shared} {A : Around} (I : Inv X pins σ H s) (le : Same F H) {x y : Str × Str} {xv yv : V} {v u : Value} (h1 : Rep F (eP x) xv) (h2 : Rep F (eP y) yv) (r1 : RelV xv v) (r2 : RelV yv u) : wpAny (model X.prog X.w) A (keyLt' (tuples' true) v u) (fun r s' => s' = s ∧ r = ltP x y) (fun _ _ => False) s := by
  obtain ⟨a, o, n, t, z, rfl, ho, hc, hd⟩ := pair_at I le h1 r1
  obtain ⟨a', o', n', t', z', rfl, ho', hc', hd'⟩ := pair_at I le h2 r2
  refine PySem.W.kat_lt ho hd ho' hd' ?_
  show PySem.W.KatLex X.prog X.w A true (decide (2 < 2)) _ [(.str x.1 t, .str y.1 t'), (.str x.2 z, .str y.2 z')] 0 s
  refine PySem.W.kat_cons (SeqAt.EqAt.str_str x.1 t y.1 t' X.prog X.w _ _ ?_)
  refine PySem.W.kat_go (fun e1 => ?_) (fun e1 => ?_)
  · have ex : x.1 = y.1 := by simpa using e1
    refine PySem.W.kat_yes (PySem.W.kat_cons (SeqAt.EqAt.str_str x.2 z y.2 z' X.prog X.w _ _ ?_))
    refine PySem.W.kat_go (fun e2 => ?_) (fun e2 => ?_)
    · have ey : x.2 = y.2 := by simpa using e2
      refine PySem.W.kat_yes (PySem.W.kat_nil ⟨rfl, ?_⟩)
      simp [ltP, ex, ey, slt_irrefl]
    · refine PySem.W.kat_no (PySem.W.kat_one _ _ (PyProof.Rows.lt_str ?_))
      refine ⟨rfl, ?_⟩
      show slt x.2 y.2 = ltP x y
      unfold ltP
      rw [ex, slt_irrefl, decide_eq_true rfl, Bool.false_or, Bool.true_and]
  · have ex : ¬ x.1 = y.1 := by simpa using e1
    refine PySem.W.kat_no (oneLt_str ⟨rfl, ?_⟩)
    show slt x.1 y.1 = ltP x y
    unfold ltP
    rw [decide_eq_false ex, Bool.false_and, Bool.or_false]
def sortPairs (X : Cx) : Sortable X eP ltP where
  O := sto_ltP
  κ := tuples' true
  inj := fun x y h => by
    simp only [eP, D.tup.injEq, List.cons.injEq, D.str.injEq, and_true] at h
    exact Prod.ext h.1 h.2
  ok := fun x => rfl
  ref := fun F x w h => by
    obtain ⟨a, vs, rfl, _⟩ := h
    exact ⟨a, rfl⟩
  kind := fun pins σ F H s A xs vs its Q E I le h r h2 hq => by
    obtain ⟨fs, g1, g2, g3⟩ := tups_of I le h r
    refine PySem.W.kat_kind (T := .type "str") g1 (by omega) (fun f hf => ?_) rfl ?_
    · obtain ⟨z, t, rfl⟩ := g3 f hf
      exact PySem.W.Looks.now
    · have e : (Value.type "str" != Value.type "tuple") = true := by first | decide +kernel | rfl | decide
      rw [e]
      exact hq
  cmp := fun pins σ F H s x y xv yv v u I le h1 h2 r1 r2 => pair_cmp I le h1 h2 r1 r2
theorem list_at {pins : List (Addr × Obj)} {σ : L2.St} {s : Shared} (I : Inv X pins σ H s) (le : Same F H) {p : List (Str × Str)} {w : V} {v : Value} (h : Rep F (eL p) w) (r : RelV w v) : ∃ a its vs, v = .ref a ∧ PlainL s.heap a its ∧ Vals vs its.toList ∧ Reps F (p.map eP) vs := by
  obtain ⟨a, vs, rfl, h1, h2⟩ := h
  cases r
  obtain ⟨its, rv, pl, _⟩ := I.list (SqL.of (le _ _ h1))
  exact ⟨a, its.toArray, vs, rfl, pl, by simpa using rv, h2⟩
theorem dlt_pair (x y : Str × Str) : dlt (eP x) (eP y) = ltP x y := by
  simp only [eP, dlt, dlts, ltP, eqb]
  by_cases e : x.1 = y.1
  · by_cases e2 : x.2 = y.2
    · simp [e, e2, slt_irrefl]
    · simp [e, e2, slt_irrefl]
  · simp [e]
theorem eqb_pair (x y : Str × Str) : eqb (eP x) (eP y) = decide (x = y) := by
  simp only [eP, eqb, eqbs]
  by_cases e : x.1 = y.1
  · by_cases e2 : x.2 = y.2
    · simp [e, e2, Prod.ext_iff]
    · simp [e, e2, Prod.ext_iff]
  · simp [e, Prod.ext_iff]
theorem dlts_pairs : ∀ x y : List (Str × Str), dlts (x.map eP) (y.map eP) = lexL ltP x y
  | [], y => by cases y <;> rfl
  | _ :: _, [] => rfl
  | a :: x, b :: y => by
    simp only [List.map_cons, dlts, lexL, eqb_pair, dlt_pair, dlts_pairs x y, decide_eq_true_eq]
theorem ltOks_pairs : ∀ x y : List (Str × Str), ltOks (x.map eP) (y.map eP) = true
  | [], y => by cases y <;> rfl
  | _ :: _, [] => rfl
  | a :: x, b :: y => by
    simp only [List.map_cons, ltOks, ltOks_pairs x y, Bool.and_true]
    rfl
theorem list_cmp {pins : List (Addr × Obj)} {σ : L2.St} {s : Shared} {A : Around} (I : Inv X pins σ H s) (le : Same F H) (hu : A.units + 8 < cLine) {x y : List (Str × Str)} {xv yv : V} {v u : Value} (h1 : Rep F (eL x) xv) (h2 : Rep F (eL y) yv) (r1 : RelV xv v) (r2 : RelV yv u) : wpAny (model X.prog X.w) A (keyLt' oneType' v u) (fun r s' => s' = s ∧ r = lexL ltP x y) (fun _ _ => False) s := by
  obtain ⟨a, its, vs, rfl, pl, rv, rp⟩ := list_at I le h1 r1
  obtain ⟨a', its2, vs2, rfl, pl2, rv2, rp2⟩ := list_at I le h2 r2
  have n1 : its.size = (x.map eP).length := by rw [← Array.length_toList, ← rv.length, rp.length]
  have n2 : its2.size = (y.map eP).length := by rw [← Array.length_toList, ← rv2.length, rp2.length]
  have it : ∀ j (j1 : j < its.size) (j2 : j < its2.size), ∃ a b xv yv, (x.map eP)[j]? = some a ∧ (y.map eP)[j]? = some b ∧ (x.map eP).getD j .non = a ∧ (y.map eP).getD j .non = b ∧ Rep F a xv ∧ Rep F b yv ∧ RelV xv its[j] ∧ RelV yv its2[j] := fun j j1 j2 => by
    have ja : j < (x.map eP).length := by omega
    have jb : j < (y.map eP).length := by omega
    obtain ⟨xv, e3, r3⟩ := rp.get (i := j) (d := (x.map eP)[j]) (List.getElem?_eq_getElem ja)
    obtain ⟨yv, e4, r4⟩ := rp2.get (i := j) (d := (y.map eP)[j]) (List.getElem?_eq_getElem jb)
    obtain ⟨uv, e5, r5⟩ := rv.get e3
    obtain ⟨uw, e6, r6⟩ := rv2.get e4
    have e5' : its[j] = uv := by
      rw [Array.getElem?_toList, Array.getElem?_eq_getElem j1] at e5
      simpa using e5
    have e6' : its2[j] = uw := by
      rw [Array.getElem?_toList, Array.getElem?_eq_getElem j2] at e6
      simpa using e6
    exact ⟨(x.map eP)[j], (y.map eP)[j], xv, yv, List.getElem?_eq_getElem ja, List.getElem?_eq_getElem jb, by rw [List.getD, List.getElem?_eq_getElem ja]; rfl, by rw [List.getD, List.getElem?_eq_getElem jb]; rfl, r3, r4, by rw [e5']; exact r5, by rw [e6']; exact r6⟩
  have dp : ∀ d ∈ x.map eP, dep d ≤ 2 := fun d hd => by
    obtain ⟨p, _, rfl⟩ := List.mem_map.mp hd
    simp [eP, dep, deps]
  have main := SeqAt.call_list_lt (A := A) (s := s) (prog := X.prog) (w := X.w) (E := fun _ _ => False) (Q := fun v s' => v = .bool (lexL ltP x y) ∧ s' = s) (e := fun j => eqb ((x.map eP).getD j .non) ((y.map eP).getD j .non)) (r := fun j => dlt ((x.map eP).getD j .non) ((y.map eP).getD j .non)) pl.isList pl2.isList (fun j j1 j2 => by
      obtain ⟨a, b, xv, yv, g1, g2, g3, g4, r1, r2, r5, r6⟩ := it j j1 j2
      obtain ⟨k1, k2, k3⟩ := ltOks_at (ltOks_pairs x y) j a b g1 g2
      have hd := dp a (List.mem_of_getElem? g1)
      simp only [g3, g4]
      exact eqAt_D I le a b k1 k2 (r1.rd le) (r2.rd le) r5 r6 (by
        show A.units + 1 + dep a < cLine
        omega)) (fun j j1 j2 _ => by
      obtain ⟨a, b, xv, yv, g1, g2, g3, g4, r1, r2, r5, r6⟩ := it j j1 j2
      obtain ⟨k1, k2, k3⟩ := ltOks_at (ltOks_pairs x y) j a b g1 g2
      have hd := dp a (List.mem_of_getElem? g1)
      simp only [g3, g4]
      exact ltAt_D I le a b k3 (r1.rd le) (r2.rd le) r5 r6 (by
        show A.units + 1 + dep a < cLine
        omega)) ⟨by rw [n1, n2, firstLt_dlts0, dlts_pairs], rfl⟩
  rw [keyLt'_oneType, oneLt'_eq]
  simp only [if_true]
  obtain ⟨o, n, ho, hc, _⟩ := pl
  refine wpAny_bind (wpAny_cRoomFor (by omega) ?_)
  refine wpAny_bind (wpAny_callSpecialIfBound?_slot (T := "list") ⟨o, ho, hc⟩ PySem.F.slot_list_lt (wpAny_mono main (fun v s' hv => ?_) fun _ _ h => h))
  obtain ⟨rfl, rfl⟩ := hv
  exact wpAny_truthy_bool ⟨rfl, rfl⟩
theorem eP_inj : ∀ {x y : List (Str × Str)}, x.map eP = y.map eP → x = y
  | [], [], _ => rfl
  | [], _ :: _, h => by cases h
  | _ :: _, [], h => by cases h
  | a :: x, b :: y, h => by
    rw [List.map_cons, List.map_cons, List.cons.injEq] at h
    have h1 := h.1
    simp only [eP, D.tup.injEq, List.cons.injEq, D.str.injEq, and_true] at h1
    rw [eP_inj h.2, Prod.ext h1.1 h1.2]
def sortLists (X : Cx) (hu : X.A.units + 64 < cLine) : Sortable X eL (lexL ltP) where
  O := sto_lexL sto_ltP
  κ := oneType'
  inj := fun x y h => by
    simp only [eL, D.lst.injEq] at h
    exact eP_inj h
  ok := fun x => by
    simp only [eL, eqOk]
    induction x with
    | nil => rfl
    | cons a x ih => simp only [List.map_cons, eqOks, ih, Bool.and_true]; rfl
  ref := fun F x w h => by
    obtain ⟨a, vs, rfl, _⟩ := h
    exact ⟨a, rfl⟩
  kind := fun pins σ F H s A xs vs its Q E I le h r h2 hq => by
    have hl : ∀ {xs : List (List (Str × Str))} {vs : List V} {its : List Value}, Reps F (xs.map eL) vs → Vals vs its → its.length = xs.length ∧ ∀ v ∈ its, PySem.W.Looks (model X.prog X.w) s.heap (typeOf v) (.type "list") := by
      intro xs
      induction xs with
      | nil =>
        intro vs its h r
        simp only [List.map_nil, Reps] at h
        subst h
        cases r
        exact ⟨rfl, fun v hv => by cases hv⟩
      | cons x xs ih =>
        intro vs its h r
        simp only [List.map_cons, Reps] at h
        obtain ⟨w, t, rfl, h1, h2⟩ := h
        cases r with
        | cons r1 r2 =>
          obtain ⟨g1, g2⟩ := ih h2 r2
          obtain ⟨a, its, vs, rfl, ⟨o, n, ho, hc, _⟩, _⟩ := list_at I le h1 r1
          refine ⟨by simp [g1], fun v hv => ?_⟩
          rcases List.mem_cons.mp hv with rfl | hv
          · rw [← hc]
            exact (show PySem.W.Looks (model X.prog X.w) s.heap (typeOf (.ref a)) o.cls from (PySem.W.Looks.ld ho).andThen .now)
          · exact g2 v hv
    obtain ⟨g1, g2⟩ := hl h r
    exact PySem.W.kas_kind (by omega) g2 (by decide +kernel) (by decide +kernel) hq
  cmp := fun pins σ F H s x y xv yv v u I le h1 h2 r1 r2 => list_cmp I le (by
    show X.A.units + 1 + 1 + 8 < cLine
    omega) h1 h2 r1 r2
end
end DL
/-! ## DL28 -/
namespace DL
open PySem PySem.Spec PyProof.Rows L2
section
variable {X : Cx}
/-- < of numbers, of texts, of tuples -/
def ltD2 : D → D → (D → Prop) → Prop
  | .int i, .int j, k => k (.bl (decide (i < j)))
  | .str a, .str b, k => k (.bl (slt a b))
  | .tup as, .tup bs, k => ltOks as bs = true ∧ deps as ≤ 60 ∧ k (.bl (dlts as bs))
  | _, _, _ => False
theorem d2_lt2 (hu : X.A.units + 64 < cLine) : D2 X (compareOp .Lt) ltD2 := by
  intro F H a b x y k le ra rb h
  cases a <;> cases b <;> first | exact h.elim | skip
  · exact d2_lt F H _ _ x y k le ra rb h
  · exact d2_lt F H _ _ x y k le ra rb h
  · obtain ⟨h1, h2, q⟩ := h
    intro pins s σ v u I rx ry
    exact ltAt_D I le _ _ (by simpa only [ltOk] using h1) ra rb rx ry (by simp only [dep]; omega) _ _ _ _ ⟨.bl _, H, I, rfl, .same rep_bl (by simpa only [dlt] using q)⟩
/-- sorted -/
def sortD2 (d : D) (k : D → Prop) : Prop := sortD d k ∨ (∃ xs : List (Str × Str), d = .lst (xs.map eP) ∧ k (.lst ((srt ltP xs).map eP))) ∨ ∃ xs : List (List (Str × Str)), d = .lst (xs.map eL) ∧ k (.lst ((srt (lexL ltP) xs).map eL))
theorem dc_sorted2 (hc : X.calm = true) (hu : X.A.units + 64 < cLine) : DC X (.builtin "sorted") (g1 sortD2) := dc1 fun F H d v k le ra h => by
  rcases h with h | ⟨xs, rfl, h⟩ | ⟨xs, rfl, h⟩
  · have := dc_sorted hc F H [d] [v] k le (.cons ra .nil) h
    exact this
  · exact wc_sort (sortPairs X) le ra h
  · exact wc_sort (sortLists X hu) le ra h
end
end DL
/-! ## DLE -/
namespace DL
open PySem PySem.Spec PyProof.Rows L2
theorem q_sel {d : S} {k : S → Prop} : sel (some d) k = k d := rfl
theorem q_isB {b : Bool} {k : Bool → Prop} : isB (.c (.bl b)) k = k b := rfl
theorem q_isPur {P : Prop} : isPur (some .pur) P = P := rfl
theorem q_isI {i : Int} {k : Int → Prop} : isI (.int i) k = k i := rfl
theorem q_strD {i : Str} {k : Str → Prop} : strD (.str i) k = k i := rfl
theorem q_lstD {i : List D} {k : List D → Prop} : lstD (.lst i) k = k i := rfl
theorem q_dkD {i : List (Key × D)} {k : List (Key × D) → Prop} : dkD (.dk i) k = k i := rfl
theorem q_dkS {i : List (Key × D)} {k : List (Key × D) → Prop} : dkS (.c (.dk i)) k = k i := rfl
theorem q_argS0 {k : List S → Prop} : argS [] k = k [] := rfl
theorem q_argSc {d : D} {r : List S} {k : List S → Prop} : argS (.c d :: r) k = argS r fun t => k (.c d :: t) := rfl
theorem q_argSp {r : List S} {k : List S → Prop} : argS (.pur :: r) k = argS r fun t => k (.pur :: t) := rfl
theorem q_coldS {d : D} {k : D → Prop} : coldS (.c d) k = k d := rfl
theorem q_onS {α : Type} {a : α} {k : α → Prop} : onS (some a) k = k a := rfl
theorem q_noTy_non {k : D → Prop} : noTy (.non) k = k (.non) := rfl
theorem q_noTy_bl {b : Bool} {k : D → Prop} : noTy (.bl b) k = k (.bl b) := rfl
theorem q_noTy_int {b : Int} {k : D → Prop} : noTy (.int b) k = k (.int b) := rfl
theorem q_noTy_str {b : Str} {k : D → Prop} : noTy (.str b) k = k (.str b) := rfl
theorem q_noTy_lst {b : List D} {k : D → Prop} : noTy (.lst b) k = k (.lst b) := rfl
theorem q_noTy_tup {b : List D} {k : D → Prop} : noTy (.tup b) k = k (.tup b) := rfl
theorem q_noTy_dk {b : List (Key × D)} {k : D → Prop} : noTy (.dk b) k = k (.dk b) := rfl
theorem q_noTy_obj {C : Addr} {b : List (Str × D)} {k : D → Prop} : noTy (.obj C b) k = k (.obj C b) := rfl
theorem q_addI {i j : Int} {k : D → Prop} : addD (.int i) (.int j) k = k (.int (i + j)) := rfl
theorem q_addS {i j : Str} {k : D → Prop} : addD (.str i) (.str j) k = (i.length + j.length ≤ lim ∧ k (.str (i ++ j))) := rfl
theorem q_addL {i j : List D} {k : D → Prop} : addD (.lst i) (.lst j) k = (i.length + j.length ≤ lim ∧ k (.lst (i ++ j))) := rfl
theorem q_addT {i j : List D} {k : D → Prop} : addD (.tup i) (.tup j) k = (i.length + j.length ≤ lim ∧ k (.tup (i ++ j))) := rfl
theorem q_intD {C : Int → Int → Prop} {g : Int → Int → D} {i j : Int} {k : D → Prop} : intD C g (.int i) (.int j) k = (C i j ∧ k (g i j)) := rfl
theorem q_ltI {i j : Int} {k : D → Prop} : ltD2 (.int i) (.int j) k = k (.bl (decide (i < j))) := rfl
theorem q_ltS {i j : Str} {k : D → Prop} : ltD2 (.str i) (.str j) k = k (.bl (slt i j)) := rfl
theorem q_g1 {f : D → (D → Prop) → Prop} {d : D} {k : D → Prop} : g1 f [d] k = f d k := rfl
theorem q_g2 {f : D → D → (D → Prop) → Prop} {a b : D} {k : D → Prop} : g2 f [a, b] k = f a b k := rfl
theorem q_lenL {i : List D} {k : D → Prop} : lenD (.lst i) k = k (.int i.length) := rfl
theorem q_lenT {i : List D} {k : D → Prop} : lenD (.tup i) k = k (.int i.length) := rfl
theorem q_lenK {i : List (Key × D)} {k : D → Prop} : lenD (.dk i) k = k (.int i.length) := rfl
theorem q_lenS {i : Str} {k : D → Prop} : lenD (.str i) k = (i.length ≤ lim ∧ k (.int i.length)) := rfl
theorem q_intOf {i : Int} {k : D → Prop} : intOfD (.int i) k = k (.int i) := rfl
theorem q_listL {i : List D} {k : D → Prop} : listOfD (.lst i) k = k (.lst i) := rfl
theorem q_listT {i : List D} {k : D → Prop} : listOfD (.tup i) k = k (.lst i) := rfl
theorem q_listK {i : List (Key × D)} {k : D → Prop} : listOfD (.dk i) k = k (.lst (i.map fun p => kD p.1)) := rfl
theorem q_listS {i : Str} {k : D → Prop} : listOfD (.str i) k = (i.cps.size ≤ lim ∧ k (.lst (signs i))) := rfl
theorem q_iterL {i : List D} {k : List D → Prop} : iterD (.lst i) k = k i := rfl
theorem q_iterT {i : List D} {k : List D → Prop} : iterD (.tup i) k = k i := rfl
theorem q_iterK {i : List (Key × D)} {k : List D → Prop} : iterD (.dk i) k = k (i.map fun p => kD p.1) := rfl
theorem q_iterS {i : Str} {k : List D → Prop} : iterD (.str i) k = k (signs i) := rfl
theorem q_ixL {l : List D} {i : Int} {k : D → Prop} : ixD (.lst l) (.int i) k = onS (atI l i) k := rfl
theorem q_ixT {l : List D} {i : Int} {k : D → Prop} : ixD (.tup l) (.int i) k = onS (atI l i) k := rfl
theorem q_ixS {l : Str} {i : Int} {k : D → Prop} : ixD (.str l) (.int i) k = (l.length ≤ lim ∧ onS (atI l.cps.toList i) fun c => k (.str ⟨#[c]⟩)) := rfl
theorem q_ixK {l : List (Key × D)} {i : Str} {k : D → Prop} : ixD (.dk l) (.str i) k = onS (getK l (.inr i)) k := rfl
theorem q_slS {z : Str} {lo hi : Option Int} {k : D → Prop} : slD (.str z) lo hi k = (z.length ≤ lim ∧ k (.str (cutS z lo hi))) := rfl
theorem q_slL {z : List D} {lo hi : Option Int} {k : D → Prop} : slD (.lst z) lo hi k = k (.lst (cutL z lo hi)) := rfl
theorem q_inL {x : D} {l : List D} {k : Bool → Prop} : inD x (.lst l) k = ((seqD x && seqDs l && decide (deps l ≤ 60)) = true ∧ k (l.any fun d => eqb d x)) := rfl
theorem q_inK {x : Str} {l : List (Key × D)} {k : Bool → Prop} : inD (.str x) (.dk l) k = k (hasK l (.inr x)) := rfl
theorem q_inS {x z : Str} {k : Bool → Prop} : inD (.str x) (.str z) k = (∃ c, x = ⟨#[c]⟩ ∧ k (decide (c ∈ z.cps.toList))) := rfl
theorem q_inV {a b : D} {k : D → Prop} : inV a b k = inD a b fun c => k (.bl c) := rfl
theorem q_ninV {a b : D} {k : D → Prop} : ninV a b k = inD a b fun c => k (.bl (!c)) := rfl
theorem q_eqD {a b : D} {k : D → Prop} : eqD a b k = (cmpOk a b = true ∧ k (.bl (eqb a b))) := rfl
theorem q_neD {a b : D} {k : D → Prop} : neD a b k = (neOk a b = true ∧ k (.bl (!eqb a b))) := rfl
theorem q_rdC {μ : Mu} {d : D} : μ.rd (.c d) = d := rfl
theorem q_rdH {h : List D} {n i : Nat} : Mu.rd ⟨h, n⟩ (.hot i) = h.getD i (.ty "") := rfl
theorem q_hotL {m : Nat} {μ : Mu} {k : Nat → List D → Prop} : hotL (.hot m) μ k = lstD (μ.rd (.hot m)) fun ds => k m ds := rfl
theorem q_hotK {m : Nat} {μ : Mu} {k : Nat → List (Key × D) → Prop} : hotK (.hot m) μ k = dkD (μ.rd (.hot m)) fun ds => k m ds := rfl
theorem q_setM0 {ρ : Rho} {k : Rho → Prop} : setM ρ [] [] k = k ρ := rfl
theorem q_setM1 {ρ : Rho} {i : Nat} {is : List Nat} {s : S} {ss : List S} {k : Rho → Prop} : setM ρ (i :: is) (s :: ss) k = setM (ρ.set i (some s)) is ss k := rfl
theorem q_nth0 {a : Option S} {l : List (Option S)} : nth (a :: l) 0 = a := rfl
theorem q_nthS {a : Option S} {l : List (Option S)} {n : Nat} : nth (a :: l) (n + 1) = nth l n := rfl
theorem q_colds0 {k : List D → Prop} : colds [] k = k [] := rfl
theorem q_colds1 {d : D} {r : List S} {k : List D → Prop} : colds (.c d :: r) k = colds r fun t => k (d :: t) := rfl
theorem q_keyI {i : Int} {k : Key → Prop} : keyS (.int i) k = k (.inl i) := rfl
theorem q_keyS {i : Str} {k : Key → Prop} : keyS (.str i) k = k (.inr i) := rfl
theorem q_app {xs : List D} {d : D} {k : D → List D → Prop} : appM xs [d] k = (xs.length < lim ∧ k .non (xs ++ [d])) := rfl
theorem q_ins {xs : List D} {i : Int} {d : D} {k : D → List D → Prop} : insM xs [.int i, d] k = (xs.length < lim ∧ 0 ≤ i ∧ i < 2 ^ 62 ∧ k .non (xs.take i.toNat ++ [d] ++ xs.drop i.toNat)) := rfl
theorem q_gTp {n : Nat} {gs : RGs} {l : List D} {ρ : Rho} {k : Rho → Prop} : gTp n gs (.tup l) ρ k = (l.length = n ∧ gs l ρ k) := rfl
theorem q_gLs {n : Nat} {gs : RGs} {l : List D} {ρ : Rho} {k : Rho → Prop} : gLs n gs (.lst l) ρ k = (l.length = n ∧ gs l ρ k) := rfl
theorem q_gCs {g : RG} {gs : RGs} {d : D} {l : List D} {ρ : Rho} {k : Rho → Prop} : gCs g gs (d :: l) ρ k = (g d ρ fun ρ' => gs l ρ' k) := rfl
theorem q_gNl {ρ : Rho} {k : Rho → Prop} : gNl [] ρ k = k ρ := rfl
theorem q_frz0 {ρ : Rho} {μ : Mu} {k : Rho → Mu → Prop} {d : D} : frzS ρ μ k (some (.c d)) = k ρ μ := rfl
theorem q_frz1 {ρ : Rho} {μ : Mu} {k : Rho → Mu → Prop} {m : Nat} : frzS ρ μ k (some (.hot m)) = noTy (μ.rd (.hot m)) fun d => k (ρ.map (thaw m d)) ⟨μ.hot.set m (.ty ""), μ.n⟩ := rfl
theorem q_thN {n : Nat} {d : D} : thaw n d none = none := rfl
theorem q_thC {n : Nat} {d e : D} : thaw n d (some (.c e)) = some (.c e) := rfl
theorem q_thP {n : Nat} {d : D} : thaw n d (some .pur) = some .pur := rfl
theorem q_thH {n m : Nat} {d : D} : thaw n d (some (.hot m)) = if m = n then some (.c d) else some (.hot m) := rfl
theorem q_putS {h : List D} {n m : Nat} {d : D} : putS ⟨h, n⟩ m d = ⟨h.set m d, n⟩ := rfl
theorem q_objS {C : Addr} {m : Str} {C' : Addr} {fs : List (Str × D)} {k : S → Prop} : objS C m (.c (.obj C' fs)) k = (C' = C ∧ fs.lookup m = none ∧ k (.c (.obj C' fs))) := rfl
theorem q_fld {C C' : Addr} {f : Str} {fs : List (Str × D)} {k : D → Prop} : fldD C f (.obj C' fs) k = (C' = C ∧ onS (fs.lookup f) k) := rfl
theorem q_objP {C C' : Addr} {fs : List (Str × D)} {k : D → Prop} : objP C (.obj C' fs) k = (C' = C ∧ k (.obj C' fs)) := rfl
theorem q_zipL {xs ys : List D} {k : List D → Prop} : zipD (.lst xs) (.lst ys) k = k ((xs.zip ys).map fun p => .tup [p.1, p.2]) := rfl
theorem q_zipT {xs ys : List D} {k : List D → Prop} : zipD (.tup xs) (.tup ys) k = k ((xs.zip ys).map fun p => .tup [p.1, p.2]) := rfl
theorem q_all {ds : List D} {k : D → Prop} : allD (.lst ds) k = (∃ bs : List Bool, ds = bs.map D.bl ∧ k (.bl (bs.all fun b => b))) := rfl
theorem q_any {ds : List D} {k : D → Prop} : anyD (.lst ds) k = (∃ bs : List Bool, ds = bs.map D.bl ∧ k (.bl (bs.any fun b => b))) := rfl
theorem q_kit_NoneType_bool : kitB "NoneType" "bool" = some false := by decide +kernel
theorem q_kit_NoneType_int : kitB "NoneType" "int" = some false := by decide +kernel
theorem q_kit_NoneType_str : kitB "NoneType" "str" = some false := by decide +kernel
theorem q_kit_NoneType_list : kitB "NoneType" "list" = some false := by decide +kernel
theorem q_kit_NoneType_tuple : kitB "NoneType" "tuple" = some false := by decide +kernel
theorem q_kit_NoneType_dict : kitB "NoneType" "dict" = some false := by decide +kernel
theorem q_kit_bool_bool : kitB "bool" "bool" = some true := by decide +kernel
theorem q_kit_bool_int : kitB "bool" "int" = some true := by decide +kernel
theorem q_kit_bool_str : kitB "bool" "str" = some false := by decide +kernel
theorem q_kit_bool_list : kitB "bool" "list" = some false := by decide +kernel
theorem q_kit_bool_tuple : kitB "bool" "tuple" = some false := by decide +kernel
theorem q_kit_bool_dict : kitB "bool" "dict" = some false := by decide +kernel
theorem q_kit_int_bool : kitB "int" "bool" = some false := by decide +kernel
theorem q_kit_int_int : kitB "int" "int" = some true := by decide +kernel
theorem q_kit_int_str : kitB "int" "str" = some false := by decide +kernel
theorem q_kit_int_list : kitB "int" "list" = some false := by decide +kernel
theorem q_kit_int_tuple : kitB "int" "tuple" = some false := by decide +kernel
theorem q_kit_int_dict : kitB "int" "dict" = some false := by decide +kernel
theorem q_kit_str_bool : kitB "str" "bool" = some false := by decide +kernel
theorem q_kit_str_int : kitB "str" "int" = some false := by decide +kernel
theorem q_kit_str_str : kitB "str" "str" = some true := by decide +kernel
theorem q_kit_str_list : kitB "str" "list" = some false := by decide +kernel
theorem q_kit_str_tuple : kitB "str" "tuple" = some false := by decide +kernel
theorem q_kit_str_dict : kitB "str" "dict" = some false := by decide +kernel
theorem q_kit_list_bool : kitB "list" "bool" = some false := by decide +kernel
theorem q_kit_list_int : kitB "list" "int" = some false := by decide +kernel
theorem q_kit_list_str : kitB "list" "str" = some false := by decide +kernel
theorem q_kit_list_list : kitB "list" "list" = some true := by decide +kernel
theorem q_kit_list_tuple : kitB "list" "tuple" = some false := by decide +kernel
theorem q_kit_list_dict : kitB "list" "dict" = some false := by decide +kernel
theorem q_kit_tuple_bool : kitB "tuple" "bool" = some false := by decide +kernel
theorem q_kit_tuple_int : kitB "tuple" "int" = some false := by decide +kernel
theorem q_kit_tuple_str : kitB "tuple" "str" = some false := by decide +kernel
theorem q_kit_tuple_list : kitB "tuple" "list" = some false := by decide +kernel
theorem q_kit_tuple_tuple : kitB "tuple" "tuple" = some true := by decide +kernel
theorem q_kit_tuple_dict : kitB "tuple" "dict" = some false := by decide +kernel
theorem q_kit_dict_bool : kitB "dict" "bool" = some false := by decide +kernel
theorem q_kit_dict_int : kitB "dict" "int" = some false := by decide +kernel
theorem q_kit_dict_str : kitB "dict" "str" = some false := by decide +kernel
theorem q_kit_dict_list : kitB "dict" "list" = some false := by decide +kernel
theorem q_kit_dict_tuple : kitB "dict" "tuple" = some false := by decide +kernel
theorem q_kit_dict_dict : kitB "dict" "dict" = some true := by decide +kernel
end DL
/-! ## SP -/
namespace DL
open PySem PySem.Spec PyProof.Rows L2
/-! ### what the law's data are -/
abbrev letters : Str := "abcdefghijklmnopqrstuvwxyz"
def isSpelt (z : Str) : Bool := decide (0 < z.length ∧ z.length < 9) && z.cps.toList.all fun c => decide (c ∈ letters.cps.toList)
structure Row where
  kind : Str
  turns : List (Str × Str)
abbrev Book := List (Str × Row)
def eTurns (t : List (Str × Str)) : D := .dk (t.map fun p => (.inr p.1, .str p.2))
def eRow (r : Row) : D := .tup [.str r.kind, eTurns r.turns]
def eBook (b : Book) : D := .dk (b.map fun p => (.inr p.1, eRow p.2))
structure Wd where
  book : Book
  first : Str
def eWorld (w : Wd) : D := .lst [eBook w.book, .str w.first]
def eStrs (xs : List Str) : D := .lst (xs.map .str)
structure OkRow (keys : List Str) (r : Row) : Prop where
  kind : r.kind ∈ kindS
  done : r.kind = "done" ↔ r.turns = []
  nd : (r.turns.map (·.1)).Nodup
  len : r.turns.length ≤ 6
  word : ∀ p ∈ r.turns, isSpelt p.1 = true
  goal : ∀ p ∈ r.turns, p.2 ∈ keys
structure OkBook (b : Book) : Prop where
  ne : b ≠ []
  nd : (b.map (·.1)).Nodup
  len : b.length ≤ 6
  word : ∀ p ∈ b, isSpelt p.1 = true
  row : ∀ p ∈ b, OkRow (b.map (·.1)) p.2
structure OkW (w : Wd) : Prop where
  book : OkBook w.book
  first : w.first ∈ w.book.map (·.1)
/-- an ordered dict's pairs -/
def getT {α : Type} [Inhabited α] (t : List (Str × α)) (k : Str) : α := ((t.find? fun p => decide (p.1 = k)).map (·.2)).getD default
def ordT {α : Type} [Inhabited α] (t : List (Str × α)) : List (Str × α) := (sortS (t.map (·.1))).map fun k => (k, getT t k)
instance : Inhabited Row := ⟨⟨"", []⟩⟩
def ordR (r : Row) : Row := ⟨r.kind, ordT r.turns⟩
def ordB (b : Book) : Book := (sortS (b.map (·.1))).map fun k => (k, ordR (getT b k))
def eDesk (a : Addr) (b : Book) (f : Str) : D := .obj a [("rows", eBook b), ("first", .str f)]
/-! ### promises: the law's draws -/
def sp_l_mixed (a_Desk : Addr) : Spec := fun ss n k => ∃ s t a : Int, ss = [.c (.int s), .c (.int t), .c (.int a)] ∧ 0 ≤ s ∧ s < 2147483629 ∧ 0 ≤ t ∧ t ≤ BIG ∧ 0 ≤ a ∧ a < 100 ∧ ∀ r, 0 ≤ r → r < 2147483587 → k (.int r) n
def sp_l_draw (a_Desk : Addr) : Spec := fun ss n k => ∃ m : Int, ss = [.pur, .c (.int m)] ∧ 0 < m ∧ m < 100 ∧ n + 2 ≤ BIG ∧ ∀ r n', 0 ≤ r → r < m → n ≤ n' → n' ≤ n + 2 → k (.int r) n'
def sp_l_one_of (a_Desk : Addr) : Spec := fun ss n k => ∃ ds : List D, ss = [.pur, .c (.lst ds)] ∧ ds ≠ [] ∧ (∀ t, .ty t ∉ ds) ∧ ds.length < 100 ∧ n + 2 ≤ BIG ∧ ∀ d n', d ∈ ds → n ≤ n' → n' ≤ n + 2 → k d n'
def sp_l_word (a_Desk : Addr) : Spec := fun ss n k => ss = [.pur] ∧ n + 30 ≤ BIG ∧ ∀ z n', isSpelt z = true → n ≤ n' → n' ≤ n + 30 → k (.str z) n'
def sp_l_shuffled (a_Desk : Addr) : Spec := fun ss n k => ∃ ds : List D, ss = [.pur, .c (.lst ds)] ∧ ds.length < 50 ∧ n + 100 ≤ BIG ∧ ∀ es n', es.Perm ds → n ≤ n' → n' ≤ n + 100 → k (.lst es) n'
def OkWs (ws : List Str) : Prop := ws.Nodup ∧ ∀ z ∈ ws, isSpelt z = true
def sp_l_words (a_Desk : Addr) : Spec := fun ss n k => ∃ m : Int, ss = [.pur, .c (.int m)] ∧ 0 ≤ m ∧ m ≤ 6 ∧ n + 400 ≤ BIG ∧ ∀ ws n', OkWs ws → (ws.length : Int) = m → n ≤ n' → n' ≤ n + 400 → k (eStrs ws) n'
def sp_l_pool (a_Desk : Addr) : Spec := fun ss n k => ss = [.pur] ∧ n + 600 ≤ BIG ∧ ∀ ws n', OkWs ws → ws.length = 6 → n ≤ n' → n' ≤ n + 600 → k (eStrs ws) n'
def OkT (keys words : List Str) (t : List (Str × Str)) : Prop := t ≠ [] ∧ (t.map (·.1)).Nodup ∧ t.length ≤ 6 ∧ (∀ p ∈ t, p.1 ∈ words) ∧ ∀ p ∈ t, p.2 ∈ keys
def sp_l_turns (a_Desk : Addr) : Spec := fun ss n k => ∃ (states words : List Str) (at_ top : Int), ss = [.pur, .c (eStrs states), .c (eStrs words), .c (.int at_), .c (.int top)] ∧ OkWs words ∧ words ≠ [] ∧ words.length ≤ 6 ∧ states ≠ [] ∧ states.length ≤ 6 ∧ 0 ≤ at_ ∧ at_ < states.length ∧ 1 ≤ top ∧ top ≤ 6 ∧ n + 300 ≤ BIG ∧
  ∀ t n', OkT states words t → n ≤ n' → n' ≤ n + 300 → k (eTurns t) n'
def sp_l_world (a_Desk : Addr) : Spec := fun ss n k => ∃ (words : List Str) (m top : Int), ss = [.pur, .c (.int m), .c (eStrs words), .c (.int top)] ∧ OkWs words ∧ words ≠ [] ∧ words.length ≤ 6 ∧ 1 ≤ m ∧ m ≤ 6 ∧ 1 ≤ top ∧ top ≤ 6 ∧ n + 3000 ≤ BIG ∧
  ∀ w n', OkW w → n ≤ n' → n' ≤ n + 3000 → k (eWorld w) n'
def sp_l_shape (a_Desk : Addr) : Spec := fun ss n k => ∃ (words : List Str), ss = [.pur, .c (eStrs words)] ∧ OkWs words ∧ 4 ≤ words.length ∧ words.length ≤ 6 ∧ n + 3000 ≤ BIG ∧ ∀ w n', OkW w → n ≤ n' → n' ≤ n + 3000 → k (eWorld w) n'
def sp_l_row_of (a_Desk : Addr) : Spec := fun ss n k => ss = [.pur, .c (.int 6)] ∧ n + 5000 ≤ BIG ∧ ∀ w ws n', OkW w → OkWs ws → ws ≠ [] → ws.length ≤ 6 → n ≤ n' → n' ≤ n + 5000 → k (.lst [eWorld w, eStrs ws]) n'
/-! ### promises: the program -/
def sp_is_spelt (a_Desk : Addr) : Spec := fun ss n k => ∃ z, ss = [.c (.str z)] ∧ z.length ≤ lim ∧ k (.bl (isSpelt z)) n
def sp_is_row (a_Desk : Addr) : Spec := fun ss n k => ∃ keys r, ss = [.c (eRow r)] ∧ OkRow keys r ∧ (∀ z ∈ keys, isSpelt z = true) ∧ k (.bl true) n
def sp_is_book (a_Desk : Addr) : Spec := fun ss n k => ∃ b, ss = [.c (eBook b)] ∧ OkBook b ∧ k (.bl true) n
def sp_copied (a_Desk : Addr) : Spec := fun ss n k => ∃ keys r, ss = [.c (eRow r)] ∧ OkRow keys r ∧ k (eRow (ordR r)) n
def spI_Desk (a_Desk : Addr) : SpecI := fun ss n k => ∃ b f, ss = [.c (eBook b), .c (.str f)] ∧ OkBook b ∧ f ∈ b.map (·.1) ∧ k [("rows", eBook (ordB b)), ("first", .str f)] n
def sp_Desk___init__ (a_Desk : Addr) : Spec := fun _ _ _ => False
def sp_Desk_book (a_Desk : Addr) : Spec := fun ss n k => ∃ b f, ss = [.c (eDesk a_Desk b f)] ∧ OkBook b ∧ k (eBook (b.map fun p => (p.1, ordR p.2))) n
def sp_Desk_start (a_Desk : Addr) : Spec := fun ss n k => ∃ b f, ss = [.c (eDesk a_Desk b f)] ∧ k (.str f) n
def sp_Desk___eq__ (a_Desk : Addr) : Spec := fun ss n k => ∃ b f, ss = [.c (eDesk a_Desk b f), .c (eDesk a_Desk b f)] ∧ OkBook b ∧ k (.bl true) n
def sp_check_desk (a_Desk : Addr) : Spec := fun ss n k => ∃ b f, ss = [.c (eDesk a_Desk b f)] ∧ k .non n
/-! ### said words, rescues -/
def saidP (b : Book) : List (Str × Str) := b.flatMap fun p => if p.2.kind = ("says" : Str) then p.2.turns.map fun t => (p.1, t.1) else []
abbrev sortP (l : List (Str × Str)) : List (Str × Str) := srt ltP l
abbrev ePairs (l : List (Str × Str)) : D := .lst (l.map eP)
def sp_l_said_words (a_Desk : Addr) : Spec := fun ss n k => ∃ w, ss = [.c (eWorld w)] ∧ OkW w ∧ k (ePairs (sortP (saidP w.book))) n
def sp_l_rescues_right (a_Desk : Addr) : Spec := fun ss n k => ∃ w, ss = [.pur, .c (eWorld w)] ∧ OkW w ∧ (saidP w.book).length < 7 ∧ n + 5000 ≤ BIG ∧ ∀ n', n ≤ n' → n' ≤ n + 5000 → k (.bl true) n'
/-! ### viable states -/
/-- an end can be come to within L, whatever is said -/
inductive Reach (b : Book) (L : Str → Prop) : Str → Prop
  | done {s : Str} {r : Row} : (s, r) ∈ b → L s → r.kind = ("done" : Str) → Reach b L s
  | step {s : Str} {r : Row} {t : Str × Str} : (s, r) ∈ b → L s → t ∈ r.turns → Reach b L t.2 → (r.kind = ("hears" : Str) ∨ ∀ u ∈ r.turns, L u.2) → Reach b L s
def Viab (b : Book) (s : Str) : Prop := ∃ L : Str → Prop, (∀ s, L s → Reach b L s) ∧ L s
def eInts (t : List (Str × Int)) : D := .dk (t.map fun p => (.inr p.1, .int p.2))
def sp_ranked (a_Desk : Addr) : Spec := fun ss n k => ∃ (b : Book) (left : List Str), ss = [.c (eBook b), .c (eStrs left)] ∧ OkBook b ∧ left.Nodup ∧ (∀ s ∈ left, s ∈ b.map (·.1)) ∧
  ∀ rk : List (Str × Int), (rk.map (·.1)).Nodup → (∀ s, s ∈ rk.map (·.1) ↔ Reach b (· ∈ left) s) → k (eInts rk) n
def sp_rounds (a_Desk : Addr) : Spec := fun ss n k => ∃ (b : Book), ss = [.c (eBook b)] ∧ OkBook b ∧ ∀ rk fell : List (Str × Int), (rk.map (·.1)).Nodup → (∀ s, s ∈ rk.map (·.1) ↔ Viab b s) → k (.tup [eInts rk, eInts fell]) n
def sp_ranks_of (a_Desk : Addr) : Spec := fun ss n k => ∃ (b : Book) (f : Str), ss = [.c (eDesk a_Desk b f)] ∧ OkBook b ∧ ∀ rk : List (Str × Int), (rk.map (·.1)).Nodup → (∀ s, s ∈ rk.map (·.1) ↔ Viab b s) → k (eInts rk) n
open Classical in
noncomputable def viabB (b : Book) (s : Str) : Bool := decide (Viab b s)
def sp_is_viable (a_Desk : Addr) : Spec := fun ss n k => ∃ (b : Book) (f : Str), ss = [.c (eDesk a_Desk b f)] ∧ OkBook b ∧ k (.bl (viabB b f)) n
def sp_has_partner (a_Desk : Addr) : Spec := fun ss n k => ∃ (b : Book) (f : Str), ss = [.c (eDesk a_Desk b f)] ∧ OkBook b ∧ k (.bl (viabB b f)) n
/-! ### lots -/
abbrev Lot := List (Str × Str)
abbrev eLots (ls : List Lot) : D := .lst (ls.map eL)
def lotsP (l : Lot) : List Lot := l.foldl (fun ls x => ls ++ ls.map (· ++ [x])) [[]]
def leftB (b : Book) (l : Lot) : Bool := b.all fun p => decide (p.2.turns = []) || p.2.turns.any fun t => decide ((p.1, t.1) ∉ l)
def woR (s : Str) (l : Lot) (r : Row) : Row := ⟨r.kind, r.turns.filter fun t => decide ((s, t.1) ∉ l)⟩
def woB (b : Book) (l : Lot) : Book := b.map fun p => (p.1, woR p.1 l p.2)
def liesB (x y : Lot) : Bool := !decide (x = y) && x.all fun p => decide (p ∈ y)
def leastP (ls : List Lot) : List Lot := ls.filter fun x => !(ls.any fun y => liesB y x)
noncomputable def goodB (b : Book) (f : Str) (l : Lot) : Bool := leftB b l && viabB (woB b l) f
structure LotOk (b : Book) (l : Lot) : Prop where
  asc : l.Pairwise fun x y => ltP x y = true
  sub : ∀ p ∈ l, p ∈ saidP b
  left : leftB b l = true
def sp_words_at (a_Desk : Addr) : Spec := fun ss n k => ∃ b f, ss = [.c (eDesk a_Desk b f), .c (.str "says")] ∧ OkBook b ∧ k (ePairs (saidP b)) n
def sp_lots_of (a_Desk : Addr) : Spec := fun ss n k => ∃ l : Lot, ss = [.c (ePairs l)] ∧ l.length ≤ 6 ∧ k (eLots (srt (lexL ltP) (lotsP l))) n
def sp_are_left (a_Desk : Addr) : Spec := fun ss n k => ∃ b f, ∃ l : Lot, ss = [.c (eDesk a_Desk b f), .c (ePairs l)] ∧ OkBook b ∧ k (.bl (leftB b l)) n
def sp_droppable_from (a_Desk : Addr) : Spec := fun ss n k => ∃ b f, ss = [.c (eDesk a_Desk b f)] ∧ OkBook b ∧ (saidP b).length ≤ 6 ∧ k (eLots ((srt (lexL ltP) (lotsP (saidP b))).filter (leftB b))) n
def sp_without (a_Desk : Addr) : Spec := fun ss n k => ∃ b f, ∃ l : Lot, ss = [.c (eDesk a_Desk b f), .c (ePairs l)] ∧ OkBook b ∧ f ∈ b.map (·.1) ∧ leftB b l = true ∧ k (eDesk a_Desk (ordB (woB b l)) f) n
def sp_lies_in (a_Desk : Addr) : Spec := fun ss n k => ∃ x y : Lot, ss = [.c (ePairs x), .c (ePairs y)] ∧ x.length ≤ 6 ∧ k (.bl (liesB x y)) n
def sp_least_of (a_Desk : Addr) : Spec := fun ss n k => ∃ ls : List Lot, ss = [.c (eLots ls)] ∧ ls.length ≤ 64 ∧ (∀ x ∈ ls, x.length ≤ 6) ∧ k (eLots (leastP ls)) n
def sp_rescues (a_Desk : Addr) : Spec := fun ss n k => ∃ b f, ss = [.c (eDesk a_Desk b f)] ∧ OkBook b ∧ f ∈ b.map (·.1) ∧ (saidP b).length ≤ 6 ∧ k (eLots (leastP ((srt (lexL ltP) (lotsP (saidP b))).filter fun l => leftB b l && viabB (ordB (woB b l)) f))) n
def sp_is_word_at (a_Desk : Addr) : Spec := fun ss n k => ∃ p : Str × Str, ss = [.c (eP p)] ∧ isSpelt p.1 = true ∧ isSpelt p.2 = true ∧ k (.bl true) n
def sp_is_ascending (a_Desk : Addr) : Spec := fun ss n k => ∃ l : Lot, ss = [.c (ePairs l)] ∧ (l.Pairwise fun x y => ltP x y = true) ∧ l.length ≤ 6 ∧ k (.bl true) n
def sp_is_list_of (a_Desk : Addr) : Spec := fun ss n k => ∃ b f, ∃ l : Lot, ss = [.c (eDesk a_Desk b f), .c (.str "says"), .c (ePairs l)] ∧ OkBook b ∧ LotOk b l ∧ l.length ≤ 6 ∧ k (.bl true) n
def sp_check_lot (a_Desk : Addr) : Spec := fun ss n k => ∃ b f, ∃ l : Lot, ss = [.c (eDesk a_Desk b f), .c (ePairs l)] ∧ OkBook b ∧ LotOk b l ∧ l.length ≤ 6 ∧ k .non n
def sp_dropped (a_Desk : Addr) : Spec := fun ss n k => ∃ b f, ∃ l : Lot, ss = [.c (eDesk a_Desk b f), .c (ePairs l)] ∧ OkBook b ∧ f ∈ b.map (·.1) ∧ LotOk b l ∧ l.length ≤ 6 ∧ k (eDesk a_Desk (ordB (woB b l)) f) n
/-! ### the law's own -/
def sp_l_desk (a_Desk : Addr) : Spec := fun ss n k => ∃ w, ss = [.c (eWorld w)] ∧ OkW w ∧ k (eDesk a_Desk (ordB w.book) w.first) n
def sp_l_turned_book (a_Desk : Addr) : Spec := fun ss n k => ∃ w, ss = [.c (eWorld w)] ∧ OkW w ∧ k (eDesk a_Desk (ordB w.book) w.first) n
def sp_l_without (a_Desk : Addr) : Spec := fun ss n k => ∃ w, ∃ l : Lot, ss = [.c (eWorld w), .c (ePairs l)] ∧ OkW w ∧ k (if leftB w.book l = true then eWorld ⟨woB w.book l, w.first⟩ else .non) n
def sp_l_viable (a_Desk : Addr) : Spec := fun ss n k => ∃ w, ss = [.c (eWorld w)] ∧ OkW w ∧ ∀ vs : List Str, vs.length ≤ 6 → (∀ s, s ∈ vs ↔ Viab w.book s) → k (eStrs vs) n
def sp_l_own_rescues (a_Desk : Addr) : Spec := fun ss n k => ∃ w, ss = [.c (eWorld w)] ∧ OkW w ∧ (saidP w.book).length ≤ 6 ∧ k (eLots (srt (lexL ltP) (leastP ((lotsP (sortP (saidP w.book))).filter fun l => goodB w.book w.first l)))) n
def sp_l_stays (a_Desk : Addr) : Spec := fun ss n k => ∃ w, ss = [.c (eWorld w), .c (eDesk a_Desk (ordB w.book) w.first)] ∧ OkW w ∧ k (.bl true) n
mutual
/-- data that exact goes through: lists, tuples, dicts by text -/
def exOk : D → Bool
  | .lst ds | .tup ds => exOks ds && decide (ds.length ≤ 100)
  | .dk ds => exOkk ds && decide (ds.length ≤ 100)
  | .bl _ | .str _ => true
  | _ => false
def exOks : List D → Bool
  | [] => true
  | d :: ds => exOk d && exOks ds
def exOkk : List (Key × D) → Bool
  | [] => true
  | (.inr _, d) :: ds => exOk d && exOkk ds
  | _ => false
end
mutual
/-- how deep exact goes -/
def mzD : D → Nat
  | .lst ds | .tup ds => mzs ds + 1
  | .dk ds => max 1 (mzk ds) + 1
  | _ => 0
def mzs : List D → Nat
  | [] => 0
  | d :: ds => max (mzD d) (mzs ds)
def mzk : List (Key × D) → Nat
  | [] => 0
  | (_, d) :: ds => max (mzD d) (mzk ds)
end
def spX (m : Nat) : Spec := fun ss n k => ∃ d, ss = [.c d, .c d] ∧ exOk d = true ∧ mzD d ≤ m ∧ k (.bl true) n
def sp_l_exact (a_Desk : Addr) : Spec := spX 8
end DL
/-! ## SPX -/
namespace DL
open PySem PySem.Spec PyProof.Rows L2
end DL
/-! ## KT -/
namespace DL
open PySem PySem.Spec PyProof.Rows L2
def top (i : Nat) : Stmt := PySem.Challenge.pw_endswell_k23_whole_rescues.main.body.getD i (.Pass ⟨0, 0, 0, 0⟩)
structure TX (w : World) (K : PySem.W.Frag) (mg : Str → Option Value) (a_Desk : Addr) : Prop where
  m_all : mg "all" = none
  m_any : mg "any" = none
  m_bool : mg "bool" = none
  m_dict : mg "dict" = none
  m_int : mg "int" = none
  m_isinstance : mg "isinstance" = none
  m_len : mg "len" = none
  m_list : mg "list" = none
  m_max : mg "max" = none
  m_min : mg "min" = none
  m_range : mg "range" = none
  m_sorted : mg "sorted" = none
  m_str : mg "str" = none
  m_sum : mg "sum" = none
  m_tuple : mg "tuple" = none
  m_zip : mg "zip" = none
  n_Desk_first : NoAttr K a_Desk "first"
  n_Desk_rows : NoAttr K a_Desk "rows"
  m_LETTERS : ∃ t, mg "LETTERS" = some (.str "abcdefghijklmnopqrstuvwxyz" t)
  i_Desk : OwnC K a_Desk
  m_Desk : mg "Desk" = some (.ref a_Desk)
  t_TURNED : TurnAt K w mg "TURNED"
  c_Desk : Cls K a_Desk
-- l_mixed
abbrev s_l_mixed : Stmt := (top 39)
abbrev N_l_mixed : List Str := ["_law_seed", "_law_turn", "_law_at", "_law_mixed_here"]
theorem sc_l_mixed : FnScope N_l_mixed ["_law_seed", "_law_turn", "_law_at"] (defScope s_l_mixed) := ⟨rfl, rfl, rfl, by decide +kernel, rfl, by decide +kernel, by decide +kernel⟩
def t_l_mixed (a_Desk : Addr) : RS := (rSeq (rSet 3 (rBin addD (rBin mulD (rVar 0) (rC (.int 69069))) (rBin mulD (rBin mulD (rC (.int 104729)) (rVar 1)) (rVar 1))))
  (rSeq (rSet 3 (rBin modD (rCB (g1 intOfD) (rCons (rBin addD (rBin addD (rVar 3) (rBin mulD (rC (.int 7919)) (rVar 2))) (rVar 1)) rNil)) (rC (.int 2147483647))))
  (rSeq (rSet 3 (rBin modD (rCB (g1 intOfD) (rCons (rBin addD (rBin mulD (rVar 3) (rVar 3)) (rC (.int 40503))) rNil)) (rC (.int 2147483629))))
  (rRet (rBin modD (rCB (g1 intOfD) (rCons (rBin mulD (rVar 3) (rC (.int 48271))) rNil)) (rC (.int 2147483587)))))))
-- l_draw
abbrev s_l_draw : Stmt := (top 40)
abbrev N_l_draw : List Str := ["_law_purse_here", "_law_many", "_law_drawn", "_law_found", "_law_piece"]
theorem sc_l_draw : FnScope N_l_draw ["_law_purse_here", "_law_many"] (defScope s_l_draw) := ⟨rfl, rfl, rfl, by decide +kernel, rfl, by decide +kernel, by decide +kernel⟩
def t_l_draw (a_Desk : Addr) : RS := (rSeq (rIfS (rT (rBin gtD (rPur 0 0) (rC (.int 0))))
  (rSeq (rSet 2 (rBin modD (rCB (g1 intOfD) (rCons (rPur 0 0) rNil)) (rVar 1)))
  (rSeq (rPurSet 0 0 (rBin fdivD (rPur 0 0) (rVar 1)))
  (rRet (rVar 2))))
  rNext)
  (rSeq (rSet 3 (rC (.int 0)))
  (rSeq (rFor (iRng (rBin addD (rC (.int 1)) (rBin fdivD (rBits (rVar 1)) (rC (.int 28))))) (gNm 4)
  (rSeq (rPurSet 0 2 (rBin addD (rPur 0 2) (rC (.int 1))))
  (rSet 3 (rBin addD (rBin mulD (rVar 3) (rC (.int 2147483587))) (rCall (sp_l_mixed a_Desk) (rCons (rPur 0 1) (rCons (rPur 0 2) (rCons (rPur 0 3) rNil))))))))
  (rRet (rBin modD (rCB (g1 intOfD) (rCons (rVar 3) rNil)) (rVar 1))))))
-- l_word
abbrev s_l_word : Stmt := (top 45)
abbrev N_l_word : List Str := ["_law_purse_here", "_law_size", "_law_turn"]
theorem sc_l_word : FnScope N_l_word ["_law_purse_here"] (defScope s_l_word) := ⟨rfl, rfl, rfl, by decide +kernel, rfl, by decide +kernel, by decide +kernel⟩
def t_l_word (a_Desk : Addr) : RS := (rSeq (rSet 1 (rBin addD (rC (.int 1)) (rCall (sp_l_draw a_Desk) (rCons (rVar 0) (rCons (rIf (rT (rBin eqD (rCall (sp_l_draw a_Desk) (rCons (rVar 0) (rCons (rC (.int 3)) rNil))) (rC (.int 0)))) (rC (.int 8)) (rC (.int 3))) rNil)))))
  (rRet (rJoin (rC (.str "")) (rLC [2] (iRng (rVar 1)) (gNm 2) rYes (rBin ixD (rC (.str "abcdefghijklmnopqrstuvwxyz")) (rCall (sp_l_draw a_Desk) (rCons (rVar 0) (rCons (rC (.int 26)) rNil))))))))
-- l_words
abbrev s_l_words : Stmt := (top 46)
abbrev N_l_words : List Str := ["_law_purse_here", "_law_many", "_law_base", "_law_near", "_law_spot", "_law_found", "_law_turn", "_law_word_here", "_law_letter"]
theorem sc_l_words : FnScope N_l_words ["_law_purse_here", "_law_many"] (defScope s_l_words) := ⟨rfl, rfl, rfl, by decide +kernel, rfl, by decide +kernel, by decide +kernel⟩
def t_l_words (a_Desk : Addr) : RS := (rSeq (rPar 2 3 (rCall (sp_l_word a_Desk) (rCons (rVar 0) rNil)) (rBin eqD (rCall (sp_l_draw a_Desk) (rCons (rVar 0) (rCons (rC (.int 3)) rNil))) (rC (.int 0))))
  (rSeq (rUnp [4, 5] (rCons (rCall (sp_l_draw a_Desk) (rCons (rVar 0) (rCons (rCB (g1 lenD) (rCons (rVar 2) rNil)) rNil))) (rCons (rLstH rNil) rNil)))
  (rSeq (rFor (iRng (rVar 1)) (gNm 6)
  (rSeq (rSet 7 (rBin addD (rBin addD (rSl (rVar 2) rNo (rPt (rVar 4))) (rBin ixD (rC (.str "abcdefghijklmnopqrstuvwxyz")) (rCall (sp_l_draw a_Desk) (rCons (rVar 0) (rCons (rC (.int 26)) rNil))))) (rSl (rVar 2) (rPt (rBin addD (rVar 4) (rC (.int 1)))) rNo)))
  (rSeq (rIfS (rNot (rT (rVar 3)))
  (rSet 7 (rCall (sp_l_word a_Desk) (rCons (rVar 0) rNil)))
  rNext)
  (rSeq (rIfS (rT (rBin inV (rVar 7) (rVar 5)))
  (rSet 7 (rBin ixD (rLC [8] (iIt (rCB (g1 listOfD) (rCons (rC (.str "abcdefghijklmnopqrstuvwxyz")) rNil))) (gNm 8) (rT (rBin ninV (rVar 8) (rVar 5))) (rVar 8)) (rC (.int 0))))
  rNext)
  (rDrop (rMut appM (rVar 5) (rCons (rVar 7) rNil)))))))
  (rRet (rVar 5)))))
-- l_shuffled
abbrev s_l_shuffled : Stmt := (top 43)
abbrev N_l_shuffled : List Str := ["_law_purse_here", "_law_some", "_law_found", "_law_item"]
theorem sc_l_shuffled : FnScope N_l_shuffled ["_law_purse_here", "_law_some"] (defScope s_l_shuffled) := ⟨rfl, rfl, rfl, by decide +kernel, rfl, by decide +kernel, by decide +kernel⟩
def t_l_shuffled (a_Desk : Addr) : RS := (rSeq (rSet 2 (rLstH rNil))
  (rSeq (rFor (iIt (rVar 1)) (gNm 3)
  (rDrop (rMut insM (rVar 2) (rCons (rCall (sp_l_draw a_Desk) (rCons (rVar 0) (rCons (rBin addD (rCB (g1 lenD) (rCons (rVar 2) rNil)) (rC (.int 1))) rNil))) (rCons (rVar 3) rNil)))))
  (rRet (rVar 2))))
-- l_pool
abbrev s_l_pool : Stmt := (top 47)
abbrev N_l_pool : List Str := ["_law_purse_here", "_law_words_here", "_law_word_here"]
theorem sc_l_pool : FnScope N_l_pool ["_law_purse_here"] (defScope s_l_pool) := ⟨rfl, rfl, rfl, by decide +kernel, rfl, by decide +kernel, by decide +kernel⟩
def t_l_pool (a_Desk : Addr) : RS := (rSeq (rSet 1 (rCall (sp_l_words a_Desk) (rCons (rVar 0) (rCons (rC (.int 6)) rNil))))
  (rSeq (rIfS (rT (rBin eqD (rCall (sp_l_draw a_Desk) (rCons (rVar 0) (rCons (rC (.int 3)) rNil))) (rC (.int 0))))
  (rSet 1 (rSl (rBin addD (rSl (rLC [2] (iIt (rLst (rCons (rC (.str "says")) (rCons (rC (.str "hears")) (rCons (rC (.str "done")) (rCons (rC (.str "start")) (rCons (rC (.str "end")) rNil))))))) (gNm 2) (rT (rBin ninV (rVar 2) (rVar 1))) (rVar 2)) rNo (rPt (rC (.int 2)))) (rVar 1)) rNo (rPt (rC (.int 6)))))
  rNext)
  (rRet (rCall (sp_l_shuffled a_Desk) (rCons (rVar 0) (rCons (rVar 1) rNil))))))
-- l_one_of
abbrev s_l_one_of : Stmt := (top 42)
abbrev N_l_one_of : List Str := ["_law_purse_here", "_law_some"]
theorem sc_l_one_of : FnScope N_l_one_of ["_law_purse_here", "_law_some"] (defScope s_l_one_of) := ⟨rfl, rfl, rfl, by decide +kernel, rfl, by decide +kernel, by decide +kernel⟩
def t_l_one_of (a_Desk : Addr) : RS := (rRet (rBin ixD (rVar 1) (rCall (sp_l_draw a_Desk) (rCons (rVar 0) (rCons (rCB (g1 lenD) (rCons (rVar 1) rNil)) rNil)))))
-- l_turns
abbrev s_l_turns : Stmt := (top 48)
abbrev N_l_turns : List Str := ["_law_purse_here", "_law_states", "_law_words_here", "_law_at", "_law_top", "_law_many", "_law_found", "_law_word_here"]
theorem sc_l_turns : FnScope N_l_turns ["_law_purse_here", "_law_states", "_law_words_here", "_law_at", "_law_top"] (defScope s_l_turns) := ⟨rfl, rfl, rfl, by decide +kernel, rfl, by decide +kernel, by decide +kernel⟩
def t_l_turns (a_Desk : Addr) : RS := (rSeq (rPar 5 6 (rBin addD (rC (.int 1)) (rCall (sp_l_draw a_Desk) (rCons (rVar 0) (rCons (rCB (g2 maxD) (rCons (rC (.int 1)) (rCons (rCB (g2 minD) (rCons (rVar 4) (rCons (rCB (g1 lenD) (rCons (rVar 2) rNil)) rNil))) rNil))) rNil)))) rDctH)
  (rSeq (rFor (iIt (rSl (rCall (sp_l_shuffled a_Desk) (rCons (rVar 0) (rCons (rVar 2) rNil))) rNo (rPt (rVar 5)))) (gNm 7)
  (rPut (rVar 6) (rVar 7) (rCall (sp_l_one_of a_Desk) (rCons (rVar 0) (rCons (rVar 1) rNil)))))
  (rSeq (rIfS (rAnd (rT (rBin ltD2 (rBin addD (rVar 3) (rC (.int 1))) (rCB (g1 lenD) (rCons (rVar 1) rNil)))) (rT (rBin gtD (rCall (sp_l_draw a_Desk) (rCons (rVar 0) (rCons (rC (.int 8)) rNil))) (rC (.int 0)))))
  (rPut (rVar 6) (rCall (sp_l_one_of a_Desk) (rCons (rVar 0) (rCons (rCB (g1 listOfD) (rCons (rVar 6) rNil)) rNil))) (rCall (sp_l_one_of a_Desk) (rCons (rVar 0) (rCons (rSl (rVar 1) (rPt (rBin addD (rVar 3) (rC (.int 1)))) rNo) rNil))))
  rNext)
  (rRet (rVar 6)))))
-- l_world
abbrev s_l_world : Stmt := (top 49)
abbrev N_l_world : List Str := ["_law_purse_here", "_law_many", "_law_words_here", "_law_top", "_law_states", "_law_book", "_law_last", "_law_at", "_law_way"]
theorem sc_l_world : FnScope N_l_world ["_law_purse_here", "_law_many", "_law_words_here", "_law_top"] (defScope s_l_world) := ⟨rfl, rfl, rfl, by decide +kernel, rfl, by decide +kernel, by decide +kernel⟩
def t_l_world_3_b_1 (a_Desk : Addr) : RS := (rIfS (rOr (rAnd (rT (rBin eqD (rVar 7) (rVar 6))) (rT (rBin gtD (rVar 8) (rC (.int 0))))) (rAnd (rT (rBin eqD (rVar 8) (rC (.int 10)))) (rT (rBin gtD (rVar 7) (rC (.int 0))))))
  (rPut (rVar 5) (rBin ixD (rVar 4) (rVar 7)) (rTup (rCons (rC (.str "done")) (rCons rDct0 rNil))))
  (rPut (rVar 5) (rBin ixD (rVar 4) (rVar 7)) (rTup (rCons (rIf (rT (rBin eqD (rBin modD (rVar 8) (rC (.int 2))) (rC (.int 0)))) (rC (.str "says")) (rC (.str "hears"))) (rCons (rCall (sp_l_turns a_Desk) (rCons (rVar 0) (rCons (rVar 4) (rCons (rVar 2) (rCons (rVar 7) (rCons (rVar 3) rNil)))))) rNil)))))
def t_l_world_3_b (a_Desk : Addr) : RS := (rSeq (rSet 8 (rCall (sp_l_draw a_Desk) (rCons (rVar 0) (rCons (rC (.int 11)) rNil))))
  (t_l_world_3_b_1 a_Desk))
def t_l_world_4 (a_Desk : Addr) : RS := (rFrz 5 (rRet (rLst (rCons (rVar 5) (rCons (rBin ixD (rVar 4) (rC (.int 0))) rNil)))))
def t_l_world_3 (a_Desk : Addr) : RS := (rSeq (rFor (iRng (rCB (g1 lenD) (rCons (rVar 4) rNil))) (gNm 7)
  (t_l_world_3_b a_Desk))
  (t_l_world_4 a_Desk))
def t_l_world_2 (a_Desk : Addr) : RS := (rSeq (rPar 5 6 rDctH (rBin subD (rCB (g1 lenD) (rCons (rVar 4) rNil)) (rC (.int 1))))
  (t_l_world_3 a_Desk))
def t_l_world_1 (a_Desk : Addr) : RS := (rSeq (rSet 4 (rLC [7] (iRng (rVar 1)) (gNm 7) (rT (rBin eqD (rIndexD (rVar 4) (rBin ixD (rVar 4) (rVar 7))) (rVar 7))) (rBin ixD (rVar 4) (rVar 7))))
  (t_l_world_2 a_Desk))
def t_l_world (a_Desk : Addr) : RS := (rSeq (rSet 4 (rCall (sp_l_shuffled a_Desk) (rCons (rVar 0) (rCons (rIf (rT (rBin eqD (rCall (sp_l_draw a_Desk) (rCons (rVar 0) (rCons (rC (.int 2)) rNil))) (rC (.int 0)))) (rCall (sp_l_words a_Desk) (rCons (rVar 0) (rCons (rVar 1) rNil))) (rSl (rBin addD (rVar 2) (rCall (sp_l_words a_Desk) (rCons (rVar 0) (rCons (rVar 1) rNil)))) rNo (rPt (rVar 1)))) rNil))))
  (t_l_world_1 a_Desk))
-- l_shape
abbrev s_l_shape : Stmt := (top 50)
abbrev N_l_shape : List Str := ["_law_purse_here", "_law_words_here", "_law_way", "_law_states", "_law_begin", "_law_second", "_law_third", "_law_last", "_law_go", "_law_out", "_law_on", "_law_end", "_law_row"]
theorem sc_l_shape : FnScope N_l_shape ["_law_purse_here", "_law_words_here"] (defScope s_l_shape) := ⟨rfl, rfl, rfl, by decide +kernel, rfl, by decide +kernel, by decide +kernel⟩
def t_l_shape_7 (a_Desk : Addr) : RS := (rFrz 12 (rRet (rLst (rCons (rVar 12) (rCons (rVar 4) rNil)))))
def t_l_shape_6 (a_Desk : Addr) : RS := (rSeq (rPut (rVar 12) (rVar 6) (rIf (rT (rBin eqD (rVar 2) (rC (.int 2)))) (rTup (rCons (rC (.str "says")) (rCons (rDisp (rP1 (rVar 10) (rVar 4) (rP1 (rVar 11) (rVar 7) rP0))) rNil))) (rTup (rCons (rC (.str "says")) (rCons (rDisp (rP1 (rVar 10) (rVar 6) rP0)) rNil)))))
  (t_l_shape_7 a_Desk))
def t_l_shape_5 (a_Desk : Addr) : RS := (rSeq (rSet 12 (rDispH (rP1 (rVar 4) (rTup (rCons (rC (.str "hears")) (rCons (rDisp (rP1 (rVar 8) (rVar 5) (rP1 (rVar 9) (rVar 6) rP0))) rNil))) (rP1 (rVar 5) (rTup (rCons (rC (.str "says")) (rCons (rDisp (rP1 (rVar 10) (rVar 4) (rP1 (rVar 11) (rVar 7) rP0))) rNil))) (rP1 (rVar 7) (rTup (rCons (rC (.str "done")) (rCons rDct0 rNil))) rP0)))))
  (t_l_shape_6 a_Desk))
def t_l_shape_4 (a_Desk : Addr) : RS := (rSeq (rIfS (rT (rBin eqD (rVar 2) (rC (.int 1))))
  (rRet (rLst (rCons (rDisp (rP1 (rVar 4) (rTup (rCons (rC (.str "says")) (rCons (rDisp (rP1 (rVar 8) (rVar 5) (rP1 (rVar 9) (rVar 6) rP0))) rNil))) (rP1 (rVar 5) (rTup (rCons (rC (.str "says")) (rCons (rDisp (rP1 (rVar 10) (rVar 4) (rP1 (rVar 11) (rVar 6) rP0))) rNil))) (rP1 (rVar 6) (rTup (rCons (rC (.str "done")) (rCons rDct0 rNil))) rP0)))) (rCons (rVar 4) rNil))))
  rNext)
  (t_l_shape_5 a_Desk))
def t_l_shape_3 (a_Desk : Addr) : RS := (rSeq (rIfS (rT (rBin eqD (rVar 2) (rC (.int 0))))
  (rRet (rLst (rCons (rDisp (rP1 (rVar 4) (rTup (rCons (rC (.str "says")) (rCons (rDisp (rP1 (rVar 8) (rVar 4) (rP1 (rVar 9) (rVar 5) rP0))) rNil))) (rP1 (rVar 5) (rTup (rCons (rC (.str "done")) (rCons rDct0 rNil))) rP0))) (rCons (rVar 4) rNil))))
  rNext)
  (t_l_shape_4 a_Desk))
def t_l_shape_2 (a_Desk : Addr) : RS := (rSeq (rAsg (rSl (rVar 1) rNo (rPt (rC (.int 4)))) (gLs 4 (gCs (gNm 8) (gCs (gNm 9) (gCs (gNm 10) (gCs (gNm 11) gNl))))))
  (t_l_shape_3 a_Desk))
def t_l_shape_1 (a_Desk : Addr) : RS := (rSeq (rAsg (rVar 3) (gLs 4 (gCs (gNm 4) (gCs (gNm 5) (gCs (gNm 6) (gCs (gNm 7) gNl))))))
  (t_l_shape_2 a_Desk))
def t_l_shape (a_Desk : Addr) : RS := (rSeq (rPar 2 3 (rCall (sp_l_draw a_Desk) (rCons (rVar 0) (rCons (rC (.int 4)) rNil))) (rCall (sp_l_words a_Desk) (rCons (rVar 0) (rCons (rC (.int 4)) rNil))))
  (t_l_shape_1 a_Desk))
-- l_row_of
abbrev s_l_row_of : Stmt := (top 53)
abbrev N_l_row_of : List Str := ["_law_purse_here", "_law_top", "_law_pool_here", "_law_words_here"]
theorem sc_l_row_of : FnScope N_l_row_of ["_law_purse_here", "_law_top"] (defScope s_l_row_of) := ⟨rfl, rfl, rfl, by decide +kernel, rfl, by decide +kernel, by decide +kernel⟩
def t_l_row_of_4 (a_Desk : Addr) : RS := (rRet (rLst (rCons (rCall (sp_l_world a_Desk) (rCons (rVar 0) (rCons (rBin addD (rC (.int 1)) (rCall (sp_l_draw a_Desk) (rCons (rVar 0) (rCons (rVar 1) rNil)))) (rCons (rVar 3) (rCons (rC (.int 3)) rNil))))) (rCons (rVar 3) rNil))))
def t_l_row_of_3 (a_Desk : Addr) : RS := (rSeq (rIfS (rAnd (rT (rBin gtD (rCB (g1 lenD) (rCons (rVar 3) rNil)) (rC (.int 3)))) (rT (rBin eqD (rCall (sp_l_draw a_Desk) (rCons (rVar 0) (rCons (rC (.int 3)) rNil))) (rC (.int 0)))))
  (rRet (rLst (rCons (rCall (sp_l_shape a_Desk) (rCons (rVar 0) (rCons (rVar 3) rNil))) (rCons (rVar 3) rNil))))
  rNext)
  (t_l_row_of_4 a_Desk))
def t_l_row_of_2 (a_Desk : Addr) : RS := (rSeq (rSet 3 (rSl (rVar 2) rNo (rPt (rBin addD (rC (.int 1)) (rCall (sp_l_draw a_Desk) (rCons (rVar 0) (rCons (rCB (g2 minD) (rCons (rC (.int 5)) (rCons (rCB (g1 lenD) (rCons (rVar 2) rNil)) rNil))) rNil)))))))
  (t_l_row_of_3 a_Desk))
def t_l_row_of_1 (a_Desk : Addr) : RS := (rSeq (rIfS (rT (rBin eqD (rCall (sp_l_draw a_Desk) (rCons (rVar 0) (rCons (rC (.int 8)) rNil))) (rC (.int 0))))
  (rRet (rLst (rCons (rCall (sp_l_world a_Desk) (rCons (rVar 0) (rCons (rBin addD (rC (.int 1)) (rCall (sp_l_draw a_Desk) (rCons (rVar 0) (rCons (rVar 1) rNil)))) (rCons (rSl (rVar 2) rNo (rPt (rC (.int 6)))) (rCons (rC (.int 6)) rNil))))) (rCons (rSl (rVar 2) rNo (rPt (rC (.int 6)))) rNil))))
  rNext)
  (t_l_row_of_2 a_Desk))
def t_l_row_of (a_Desk : Addr) : RS := (rSeq (rSet 2 (rCall (sp_l_pool a_Desk) (rCons (rVar 0) rNil)))
  (t_l_row_of_1 a_Desk))
-- l_said_words
abbrev s_l_said_words : Stmt := (top 56)
abbrev N_l_said_words : List Str := ["_law_world_here", "_law_found", "_law_state", "_law_word_here"]
theorem sc_l_said_words : FnScope N_l_said_words ["_law_world_here"] (defScope s_l_said_words) := ⟨rfl, rfl, rfl, by decide +kernel, rfl, by decide +kernel, by decide +kernel⟩
def t_l_said_words_1_b (a_Desk : Addr) : RS := (rIfS (rT (rBin eqD (rBin ixD (rBin ixD (rBin ixD (rVar 0) (rC (.int 0))) (rVar 2)) (rC (.int 0))) (rC (.str "says"))))
  (rSet 1 (rBin addD (rVar 1) (rLC [3] (iIt (rBin ixD (rBin ixD (rBin ixD (rVar 0) (rC (.int 0))) (rVar 2)) (rC (.int 1)))) (gNm 3) rYes (rTup (rCons (rVar 2) (rCons (rVar 3) rNil))))))
  rNext)
def t_l_said_words_2 (a_Desk : Addr) : RS := (rRet (rCB (g1 sortD2) (rCons (rVar 1) rNil)))
def t_l_said_words_1 (a_Desk : Addr) : RS := (rSeq (rFor (iIt (rBin ixD (rVar 0) (rC (.int 0)))) (gNm 2)
  (t_l_said_words_1_b a_Desk))
  (t_l_said_words_2 a_Desk))
def t_l_said_words (a_Desk : Addr) : RS := (rSeq (rSet 1 (rLst rNil))
  (t_l_said_words_1 a_Desk))
-- is_spelt
abbrev s_is_spelt : Stmt := (top 8)
abbrev N_is_spelt : List Str := ["value", "letter"]
theorem sc_is_spelt : FnScope N_is_spelt ["value"] (defScope s_is_spelt) := ⟨rfl, rfl, rfl, by decide +kernel, rfl, by decide +kernel, by decide +kernel⟩
def t_is_spelt (a_Desk : Addr) : RS := (rSeq (rIfS (rOr (rNot (rT (rIsi "str" (rVar 0)))) (rNot (rT (rCh ltD2 ltD2 (rC (.int 0)) (rCB (g1 lenD) (rCons (rVar 0) rNil)) (rC (.int 9))))))
  (rRet (rC (.bl false)))
  rNext)
  (rSeq (rFor (iIt (rVar 0)) (gNm 1)
  (rIfS (rT (rBin ninV (rVar 1) (rC (.str "abcdefghijklmnopqrstuvwxyz"))))
  (rRet (rC (.bl false)))
  rNext))
  (rRet (rC (.bl true)))))
-- is_row
abbrev s_is_row : Stmt := (top 12)
abbrev N_is_row : List Str := ["value", "word"]
theorem sc_is_row : FnScope N_is_row ["value"] (defScope s_is_row) := ⟨rfl, rfl, rfl, by decide +kernel, rfl, by decide +kernel, by decide +kernel⟩
def t_is_row (a_Desk : Addr) : RS := (rSeq (rIfS (rOr (rNot (rT (rIsi "tuple" (rVar 0)))) (rOr (rT (rBin neD (rCB (g1 lenD) (rCons (rVar 0) rNil)) (rC (.int 2)))) (rNot (rT (rIsi "str" (rBin ixD (rVar 0) (rC (.int 0))))))))
  (rRet (rC (.bl false)))
  rNext)
  (rSeq (rIfS (rOr (rT (rTur false (rBin ixD (rVar 0) (rC (.int 0))))) (rOr (rNot (rT (rIsi "dict" (rBin ixD (rVar 0) (rC (.int 1)))))) (rT (rBin neD (rBin eqD (rBin ixD (rVar 0) (rC (.int 0))) (rC (.str "done"))) (rBin eqD (rBin ixD (rVar 0) (rC (.int 1))) rDct0)))))
  (rRet (rC (.bl false)))
  rNext)
  (rRet (rCB (g1 allD) (rCons (rLC [1] (iIt (rBin ixD (rVar 0) (rC (.int 1)))) (gNm 1) rYes (rAndV (rCall (sp_is_spelt a_Desk) (rCons (rVar 1) rNil)) (rCall (sp_is_spelt a_Desk) (rCons (rBin ixD (rBin ixD (rVar 0) (rC (.int 1))) (rVar 1)) rNil)))) rNil)))))
-- is_book
abbrev s_is_book : Stmt := (top 13)
abbrev N_is_book : List Str := ["value", "state", "row", "kind", "turns", "goal"]
theorem sc_is_book : FnScope N_is_book ["value"] (defScope s_is_book) := ⟨rfl, rfl, rfl, by decide +kernel, rfl, by decide +kernel, by decide +kernel⟩
def t_is_book (a_Desk : Addr) : RS := (rSeq (rIfS (rOr (rNot (rT (rIsi "dict" (rVar 0)))) (rOr (rT (rBin eqD (rVar 0) rDct0)) (rNot (rT (rCB (g1 allD) (rCons (rLC [1] (iIt (rVar 0)) (gNm 1) rYes (rCall (sp_is_spelt a_Desk) (rCons (rVar 1) rNil))) rNil))))))
  (rRet (rC (.bl false)))
  rNext)
  (rSeq (rIfS (rNot (rT (rCB (g1 allD) (rCons (rLC [2] (iVals (rVar 0)) (gNm 2) rYes (rCall (sp_is_row a_Desk) (rCons (rVar 2) rNil))) rNil))))
  (rRet (rC (.bl false)))
  rNext)
  (rRet (rCB (g1 allD) (rCons (rLC2 [3, 4, 5] [5] (iVals (rVar 0)) (gTp 2 (gCs (gNm 3) (gCs (gNm 4) gNl))) rYes (iVals (rVar 4)) (gNm 5) rYes (rBin inV (rVar 5) (rVar 0))) rNil)))))
-- copied
abbrev s_copied : Stmt := (top 14)
abbrev N_copied : List Str := ["row", "kind", "turns", "word"]
theorem sc_copied : FnScope N_copied ["row"] (defScope s_copied) := ⟨rfl, rfl, rfl, by decide +kernel, rfl, by decide +kernel, by decide +kernel⟩
def t_copied (a_Desk : Addr) : RS := (rSeq (rAsg (rVar 0) (gTp 2 (gCs (gNm 1) (gCs (gNm 2) gNl))))
  (rRet (rTup (rCons (rVar 1) (rCons (rDc [3] (iIt (rCB (g1 sortD2) (rCons (rVar 2) rNil))) (gNm 3) rYes (rVar 3) (rBin ixD (rVar 2) (rVar 3))) rNil)))))
-- Desk___init__
abbrev s_Desk___init__ : Stmt := (inClass (top 15) 0)
abbrev N_Desk___init__ : List Str := ["self", "book", "start", "state"]
theorem sc_Desk___init__ : FnScope N_Desk___init__ ["self", "book", "start"] (defScope s_Desk___init__) := ⟨rfl, rfl, rfl, by decide +kernel, rfl, by decide +kernel, by decide +kernel⟩
def t_Desk___init__ (a_Desk : Addr) : RS := (rSeq (rIfS (rNot (rT (rCall (sp_is_book a_Desk) (rCons (rVar 1) rNil))))
  rDead
  rNext)
  (rSeq (rIfS (rOr (rNot (rT (rCall (sp_is_spelt a_Desk) (rCons (rVar 2) rNil)))) (rT (rBin ninV (rVar 2) (rVar 1))))
  rDead
  rNext)
  (rSeq (rFldSet a_Desk "rows" (rVar 0) (rDc [3] (iIt (rCB (g1 sortD2) (rCons (rVar 1) rNil))) (gNm 3) rYes (rVar 3) (rCall (sp_copied a_Desk) (rCons (rBin ixD (rVar 1) (rVar 3)) rNil))))
  (rFldSet a_Desk "first" (rVar 0) (rVar 2)))))
-- l_desk
abbrev s_l_desk : Stmt := (top 51)
abbrev N_l_desk : List Str := ["_law_world_here", "_law_state"]
theorem sc_l_desk : FnScope N_l_desk ["_law_world_here"] (defScope s_l_desk) := ⟨rfl, rfl, rfl, by decide +kernel, rfl, by decide +kernel, by decide +kernel⟩
def t_l_desk (a_Desk : Addr) : RS := (rRet (rMake a_Desk (spI_Desk a_Desk) (rCons (rCB (g1 dictOfD) (rCons (rLC [1] (iIt (rBin ixD (rVar 0) (rC (.int 0)))) (gNm 1) rYes (rTup (rCons (rVar 1) (rCons (rTup (rCons (rBin ixD (rBin ixD (rBin ixD (rVar 0) (rC (.int 0))) (rVar 1)) (rC (.int 0))) (rCons (rCB (g1 dictOfD) (rCons (rBin ixD (rBin ixD (rBin ixD (rVar 0) (rC (.int 0))) (rVar 1)) (rC (.int 1))) rNil)) rNil))) rNil)))) rNil)) (rCons (rBin ixD (rVar 0) (rC (.int 1))) rNil))))
-- l_without
abbrev s_l_without : Stmt := (top 57)
abbrev N_l_without : List Str := ["_law_world_here", "_law_lot", "_law_book", "_law_state", "_law_kind", "_law_turns_here", "_law_word_here"]
theorem sc_l_without : FnScope N_l_without ["_law_world_here", "_law_lot"] (defScope s_l_without) := ⟨rfl, rfl, rfl, by decide +kernel, rfl, by decide +kernel, by decide +kernel⟩
def t_l_without_1_b_2 (a_Desk : Addr) : RS := (rIfS (rAnd (rT (rBin eqD (rBin ixD (rBin ixD (rVar 2) (rVar 3)) (rC (.int 1))) rDct0)) (rT (rBin neD (rVar 4) (rC (.str "done")))))
  (rRet (rC .non))
  rNext)
def t_l_without_1_b_1 (a_Desk : Addr) : RS := (rSeq (rPut (rVar 2) (rVar 3) (rTup (rCons (rVar 4) (rCons (rCB (g1 dictOfD) (rCons (rLC [6] (iIt (rVar 5)) (gNm 6) (rT (rBin ninV (rTup (rCons (rVar 3) (rCons (rVar 6) rNil))) (rVar 1))) (rTup (rCons (rVar 6) (rCons (rBin ixD (rVar 5) (rVar 6)) rNil)))) rNil)) rNil))))
  (t_l_without_1_b_2 a_Desk))
def t_l_without_1_b (a_Desk : Addr) : RS := (rSeq (rAsg (rBin ixD (rBin ixD (rVar 0) (rC (.int 0))) (rVar 3)) (gTp 2 (gCs (gNm 4) (gCs (gNm 5) gNl))))
  (t_l_without_1_b_1 a_Desk))
def t_l_without_2 (a_Desk : Addr) : RS := (rFrz 2 (rRet (rLst (rCons (rVar 2) (rCons (rBin ixD (rVar 0) (rC (.int 1))) rNil)))))
def t_l_without_1 (a_Desk : Addr) : RS := (rSeq (rFor (iIt (rBin ixD (rVar 0) (rC (.int 0)))) (gNm 3)
  (t_l_without_1_b a_Desk))
  (t_l_without_2 a_Desk))
def t_l_without (a_Desk : Addr) : RS := (rSeq (rSet 2 rDctH)
  (t_l_without_1 a_Desk))
-- l_viable
abbrev s_l_viable : Stmt := (top 52)
abbrev N_l_viable : List Str := ["_law_world_here", "_law_kept", "_law_turn", "_law_near", "_law_many", "_law_state", "_law_kind", "_law_turns_here", "_law_goals", "_law_is_near", "_law_word_here", "_law_goal"]
theorem sc_l_viable : FnScope N_l_viable ["_law_world_here"] (defScope s_l_viable) := ⟨rfl, rfl, rfl, by decide +kernel, rfl, by decide +kernel, by decide +kernel⟩
def t_l_viable_1_b_1_b_1_b_3 (a_Desk : Addr) : RS := (rIfS (rOr (rT (rBin eqD (rVar 6) (rC (.str "done")))) (rAnd (rT (rVar 9)) (rOr (rT (rBin eqD (rVar 6) (rC (.str "hears")))) (rT (rCB (g1 allD) (rCons (rLC [11] (iIt (rVar 8)) (gNm 11) rYes (rBin inV (rVar 11) (rVar 1))) rNil))))))
  (rPut (rVar 3) (rVar 5) (rC (.bl true)))
  rNext)
def t_l_viable_1_b_1_b_1_b_2 (a_Desk : Addr) : RS := (rSeq (rSet 9 (rCB (g1 anyD) (rCons (rLC [11] (iIt (rVar 8)) (gNm 11) rYes (rBin inV (rVar 11) (rVar 3))) rNil)))
  (t_l_viable_1_b_1_b_1_b_3 a_Desk))
def t_l_viable_1_b_1_b_1_b_1 (a_Desk : Addr) : RS := (rSeq (rSetLc 8 [10] (iIt (rVar 7)) (gNm 10) rYes (rBin ixD (rVar 7) (rVar 10)))
  (t_l_viable_1_b_1_b_1_b_2 a_Desk))
def t_l_viable_1_b_1_b_1_b (a_Desk : Addr) : RS := (rSeq (rAsg (rBin ixD (rBin ixD (rVar 0) (rC (.int 0))) (rVar 5)) (gTp 2 (gCs (gNm 6) (gCs (gNm 7) gNl))))
  (t_l_viable_1_b_1_b_1_b_1 a_Desk))
def t_l_viable_1_b_1_b_1 (a_Desk : Addr) : RS := (rFor (iIt (rLC [5] (iIt (rVar 1)) (gNm 5) (rT (rBin ninV (rVar 5) (rVar 3))) (rVar 5))) (gNm 5)
  (t_l_viable_1_b_1_b_1_b a_Desk))
def t_l_viable_1_b_1_b (a_Desk : Addr) : RS := (rSeq (rSet 4 (rCB (g1 lenD) (rCons (rVar 3) rNil)))
  (t_l_viable_1_b_1_b_1 a_Desk))
def t_l_viable_1_b_3 (a_Desk : Addr) : RS := (rFrz 3 (rSet 1 (rVar 3)))
def t_l_viable_1_b_2 (a_Desk : Addr) : RS := (rSeq (rIfS (rT (rBin eqD (rCB (g1 lenD) (rCons (rVar 3) rNil)) (rCB (g1 lenD) (rCons (rVar 1) rNil))))
  (rRet (rCB (g1 sortD2) (rCons (rVar 3) rNil)))
  rNext)
  (t_l_viable_1_b_3 a_Desk))
def t_l_viable_1_b_1 (a_Desk : Addr) : RS := (rSeq (rWhile (rT (rBin ltD2 (rVar 4) (rCB (g1 lenD) (rCons (rVar 3) rNil))))
  (t_l_viable_1_b_1_b a_Desk))
  (t_l_viable_1_b_2 a_Desk))
def t_l_viable_1_b (a_Desk : Addr) : RS := (rSeq (rUnp [3, 4] (rCons rDctH (rCons (rNeg (rC (.int 1))) rNil)))
  (t_l_viable_1_b_1 a_Desk))
def t_l_viable_2 (a_Desk : Addr) : RS := (rRet (rCB (g1 sortD2) (rCons (rVar 1) rNil)))
def t_l_viable_1 (a_Desk : Addr) : RS := (rSeq (rFor (iRng (rBin addD (rCB (g1 lenD) (rCons (rBin ixD (rVar 0) (rC (.int 0))) rNil)) (rC (.int 1)))) (gNm 2)
  (t_l_viable_1_b a_Desk))
  (t_l_viable_2 a_Desk))
def t_l_viable (a_Desk : Addr) : RS := (rSeq (rSet 1 (rCB (g1 dictOfD) (rCons (rLC [5] (iIt (rBin ixD (rVar 0) (rC (.int 0)))) (gNm 5) rYes (rTup (rCons (rVar 5) (rCons (rC (.bl true)) rNil)))) rNil)))
  (t_l_viable_1 a_Desk))
-- l_own_rescues
abbrev s_l_own_rescues : Stmt := (top 58)
abbrev N_l_own_rescues : List Str := ["_law_world_here", "_law_lots", "_law_item", "_law_good", "_law_lot", "_law_late", "_law_least", "_law_other"]
theorem sc_l_own_rescues : FnScope N_l_own_rescues ["_law_world_here"] (defScope s_l_own_rescues) := ⟨rfl, rfl, rfl, by decide +kernel, rfl, by decide +kernel, by decide +kernel⟩
def t_l_own_rescues_1_b (a_Desk : Addr) : RS := (rSet 1 (rBin addD (rVar 1) (rLC [4] (iIt (rVar 1)) (gNm 4) rYes (rBin addD (rVar 4) (rLst (rCons (rVar 2) rNil))))))
def t_l_own_rescues_3_b_1 (a_Desk : Addr) : RS := (rIfS (rAnd (rT (rBin nisV (rVar 5) (rC .non))) (rT (rBin inV (rBin ixD (rVar 0) (rC (.int 1))) (rCall (sp_l_viable a_Desk) (rCons (rVar 5) rNil)))))
  (rDrop (rMut appM (rVar 3) (rCons (rVar 4) rNil)))
  rNext)
def t_l_own_rescues_3_b (a_Desk : Addr) : RS := (rSeq (rSet 5 (rCall (sp_l_without a_Desk) (rCons (rVar 0) (rCons (rVar 4) rNil))))
  (t_l_own_rescues_3_b_1 a_Desk))
def t_l_own_rescues_5 (a_Desk : Addr) : RS := (rRet (rCB (g1 sortD2) (rCons (rVar 6) rNil)))
def t_l_own_rescues_4 (a_Desk : Addr) : RS := (rFrz 3 (rSeq (rSetLc 6 [4] (iIt (rVar 3)) (gNm 4) (rNot (rT (rCB (g1 anyD) (rCons (rLC [7] (iIt (rVar 3)) (gNm 7) rYes (rAndV (rBin neD (rVar 7) (rVar 4)) (rCB (g1 allD) (rCons (rLC [2] (iIt (rVar 7)) (gNm 2) rYes (rBin inV (rVar 2) (rVar 4))) rNil)))) rNil)))) (rVar 4))
  (t_l_own_rescues_5 a_Desk)))
def t_l_own_rescues_3 (a_Desk : Addr) : RS := (rSeq (rFor (iIt (rVar 1)) (gNm 4)
  (t_l_own_rescues_3_b a_Desk))
  (t_l_own_rescues_4 a_Desk))
def t_l_own_rescues_2 (a_Desk : Addr) : RS := (rSeq (rSet 3 (rLstH rNil))
  (t_l_own_rescues_3 a_Desk))
def t_l_own_rescues_1 (a_Desk : Addr) : RS := (rSeq (rFor (iIt (rCall (sp_l_said_words a_Desk) (rCons (rVar 0) rNil))) (gNm 2)
  (t_l_own_rescues_1_b a_Desk))
  (t_l_own_rescues_2 a_Desk))
def t_l_own_rescues (a_Desk : Addr) : RS := (rSeq (rSet 1 (rLst (rCons (rLst rNil) rNil)))
  (t_l_own_rescues_1 a_Desk))
-- check_desk
abbrev s_check_desk : Stmt := (top 16)
abbrev N_check_desk : List Str := ["value"]
theorem sc_check_desk : FnScope N_check_desk ["value"] (defScope s_check_desk) := ⟨rfl, rfl, rfl, by decide +kernel, rfl, by decide +kernel, by decide +kernel⟩
def t_check_desk (a_Desk : Addr) : RS := (rIfS (rNot (rT (rIsiC a_Desk (rVar 0))))
  rDead
  rNext)
-- words_at
abbrev s_words_at : Stmt := (top 18)
abbrev N_words_at : List Str := ["desk", "kind", "state", "row", "word"]
theorem sc_words_at : FnScope N_words_at ["desk", "kind"] (defScope s_words_at) := ⟨rfl, rfl, rfl, by decide +kernel, rfl, by decide +kernel, by decide +kernel⟩
def t_words_at (a_Desk : Addr) : RS := (rRet (rLC2 [2, 3, 4] [4] (iItems (rFld a_Desk "rows" (rVar 0))) (gTp 2 (gCs (gNm 2) (gCs (gNm 3) gNl))) (rT (rBin eqD (rBin ixD (rVar 3) (rC (.int 0))) (rVar 1))) (iIt (rBin ixD (rVar 3) (rC (.int 1)))) (gNm 4) rYes (rTup (rCons (rVar 2) (rCons (rVar 4) rNil)))))
-- lots_of
abbrev s_lots_of : Stmt := (top 21)
abbrev N_lots_of : List Str := ["things", "found", "thing", "lot"]
theorem sc_lots_of : FnScope N_lots_of ["things"] (defScope s_lots_of) := ⟨rfl, rfl, rfl, by decide +kernel, rfl, by decide +kernel, by decide +kernel⟩
def t_lots_of_1_b (a_Desk : Addr) : RS := (rSet 1 (rBin addD (rVar 1) (rLC [3] (iIt (rVar 1)) (gNm 3) rYes (rLst (rStar (rVar 3) (rCons (rVar 2) rNil))))))
def t_lots_of_2 (a_Desk : Addr) : RS := (rRet (rCB (g1 sortD2) (rCons (rVar 1) rNil)))
def t_lots_of_1 (a_Desk : Addr) : RS := (rSeq (rFor (iIt (rVar 0)) (gNm 2)
  (t_lots_of_1_b a_Desk))
  (t_lots_of_2 a_Desk))
def t_lots_of (a_Desk : Addr) : RS := (rSeq (rSet 1 (rLst (rCons (rLst rNil) rNil)))
  (t_lots_of_1 a_Desk))
-- are_left
abbrev s_are_left : Stmt := (top 19)
abbrev N_are_left : List Str := ["desk", "some", "state", "kind", "turns", "word"]
theorem sc_are_left : FnScope N_are_left ["desk", "some"] (defScope s_are_left) := ⟨rfl, rfl, rfl, by decide +kernel, rfl, by decide +kernel, by decide +kernel⟩
def t_are_left_0_b (a_Desk : Addr) : RS := (rIfS (rAnd (rT (rBin neD (rVar 4) rDct0)) (rT (rCB (g1 allD) (rCons (rLC [5] (iIt (rVar 4)) (gNm 5) rYes (rBin inV (rTup (rCons (rVar 2) (rCons (rVar 5) rNil))) (rVar 1))) rNil))))
  (rRet (rC (.bl false)))
  rNext)
def t_are_left_1 (a_Desk : Addr) : RS := (rRet (rC (.bl true)))
def t_are_left (a_Desk : Addr) : RS := (rSeq (rFor (iItems (rFld a_Desk "rows" (rVar 0))) (gTp 2 (gCs (gNm 2) (gCs (gTp 2 (gCs (gNm 3) (gCs (gNm 4) gNl))) gNl)))
  (t_are_left_0_b a_Desk))
  (t_are_left_1 a_Desk))
-- droppable_from
abbrev s_droppable_from : Stmt := (top 22)
abbrev N_droppable_from : List Str := ["desk", "lot"]
theorem sc_droppable_from : FnScope N_droppable_from ["desk"] (defScope s_droppable_from) := ⟨rfl, rfl, rfl, by decide +kernel, rfl, by decide +kernel, by decide +kernel⟩
def t_droppable_from (a_Desk : Addr) : RS := (rRet (rLC [1] (iIt (rCall (sp_lots_of a_Desk) (rCons (rCall (sp_words_at a_Desk) (rCons (rVar 0) (rCons (rC (.str "says")) rNil))) rNil))) (gNm 1) (rT (rCall (sp_are_left a_Desk) (rCons (rVar 0) (rCons (rVar 1) rNil)))) (rVar 1)))
-- without
abbrev s_without : Stmt := (top 20)
abbrev N_without : List Str := ["desk", "some", "book", "state", "kind", "turns", "word", "goal"]
theorem sc_without : FnScope N_without ["desk", "some"] (defScope s_without) := ⟨rfl, rfl, rfl, by decide +kernel, rfl, by decide +kernel, by decide +kernel⟩
def t_without_1_b (a_Desk : Addr) : RS := (rPut (rVar 2) (rVar 3) (rTup (rCons (rVar 4) (rCons (rDc [6, 7] (iItems (rVar 5)) (gTp 2 (gCs (gNm 6) (gCs (gNm 7) gNl))) (rT (rBin ninV (rTup (rCons (rVar 3) (rCons (rVar 6) rNil))) (rVar 1))) (rVar 6) (rVar 7)) rNil))))
def t_without_2 (a_Desk : Addr) : RS := (rFrz 2 (rRet (rMake a_Desk (spI_Desk a_Desk) (rCons (rVar 2) (rCons (rFld a_Desk "first" (rVar 0)) rNil)))))
def t_without_1 (a_Desk : Addr) : RS := (rSeq (rFor (iItems (rFld a_Desk "rows" (rVar 0))) (gTp 2 (gCs (gNm 3) (gCs (gTp 2 (gCs (gNm 4) (gCs (gNm 5) gNl))) gNl)))
  (t_without_1_b a_Desk))
  (t_without_2 a_Desk))
def t_without (a_Desk : Addr) : RS := (rSeq (rSet 2 rDctH)
  (t_without_1 a_Desk))
-- ranked
abbrev s_ranked : Stmt := (top 26)
abbrev N_ranked : List Str := ["rows", "left", "ranks", "depth", "more", "found", "state", "kind", "goals", "goal"]
theorem sc_ranked : FnScope N_ranked ["rows", "left"] (defScope s_ranked) := ⟨rfl, rfl, rfl, by decide +kernel, rfl, by decide +kernel, by decide +kernel⟩
def t_ranked_1_b_2_b_1 (a_Desk : Addr) : RS := (rIfS (rAnd (rT (rCB (g1 anyD) (rCons (rLC [9] (iIt (rVar 8)) (gNm 9) rYes (rBin inV (rVar 9) (rVar 2))) rNil))) (rOr (rT (rBin eqD (rVar 7) (rC (.str "hears")))) (rT (rCB (g1 allD) (rCons (rLC [9] (iIt (rVar 8)) (gNm 9) rYes (rBin inV (rVar 9) (rVar 1))) rNil)))))
  (rDrop (rMut appM (rVar 5) (rCons (rVar 6) rNil)))
  rNext)
def t_ranked_1_b_2_b (a_Desk : Addr) : RS := (rSeq (rPar 7 8 (rBin ixD (rBin ixD (rVar 0) (rVar 6)) (rC (.int 0))) (rList_values (rBin ixD (rBin ixD (rVar 0) (rVar 6)) (rC (.int 1)))))
  (t_ranked_1_b_2_b_1 a_Desk))
def t_ranked_1_b_3_b (a_Desk : Addr) : RS := (rPut (rVar 2) (rVar 6) (rVar 3))
def t_ranked_1_b_4 (a_Desk : Addr) : RS := (rSet 4 (rBin neD (rVar 5) (rLst rNil)))
def t_ranked_1_b_3 (a_Desk : Addr) : RS := (rFrz 5 (rSeq (rFor (iIt (rVar 5)) (gNm 6)
  (t_ranked_1_b_3_b a_Desk))
  (t_ranked_1_b_4 a_Desk)))
def t_ranked_1_b_2 (a_Desk : Addr) : RS := (rSeq (rFor (iIt (rLC [6] (iIt (rVar 1)) (gNm 6) (rT (rBin ninV (rVar 6) (rVar 2))) (rVar 6))) (gNm 6)
  (t_ranked_1_b_2_b a_Desk))
  (t_ranked_1_b_3 a_Desk))
def t_ranked_1_b_1 (a_Desk : Addr) : RS := (rSeq (rSet 5 (rLstH rNil))
  (t_ranked_1_b_2 a_Desk))
def t_ranked_1_b (a_Desk : Addr) : RS := (rSeq (rAug 3 (· + ·) (rC (.int 1)))
  (t_ranked_1_b_1 a_Desk))
def t_ranked_2 (a_Desk : Addr) : RS := (rRet (rVar 2))
def t_ranked_1 (a_Desk : Addr) : RS := (rSeq (rWhile (rT (rVar 4))
  (t_ranked_1_b a_Desk))
  (t_ranked_2 a_Desk))
def t_ranked (a_Desk : Addr) : RS := (rSeq (rUnp [2, 3, 4] (rCons (rDcH [6] (iIt (rVar 1)) (gNm 6) (rT (rBin eqD (rBin ixD (rBin ixD (rVar 0) (rVar 6)) (rC (.int 0))) (rC (.str "done")))) (rVar 6) (rC (.int 0))) (rCons (rC (.int 0)) (rCons (rC (.bl true)) rNil))))
  (t_ranked_1 a_Desk))
-- rounds
abbrev s_rounds : Stmt := (top 27)
abbrev N_rounds : List Str := ["rows", "left", "fell", "turn", "ranks", "state"]
theorem sc_rounds : FnScope N_rounds ["rows"] (defScope s_rounds) := ⟨rfl, rfl, rfl, by decide +kernel, rfl, by decide +kernel, by decide +kernel⟩
def t_rounds_1_b_2_b (a_Desk : Addr) : RS := (rPut (rVar 2) (rVar 5) (rVar 3))
def t_rounds_1_b_3 (a_Desk : Addr) : RS := (rPar 1 3 (rLC [5] (iIt (rVar 1)) (gNm 5) (rT (rBin inV (rVar 5) (rVar 4))) (rVar 5)) (rBin addD (rVar 3) (rC (.int 1))))
def t_rounds_1_b_2 (a_Desk : Addr) : RS := (rSeq (rFor (iIt (rLC [5] (iIt (rVar 1)) (gNm 5) (rT (rBin ninV (rVar 5) (rVar 4))) (rVar 5))) (gNm 5)
  (t_rounds_1_b_2_b a_Desk))
  (t_rounds_1_b_3 a_Desk))
def t_rounds_1_b_1 (a_Desk : Addr) : RS := (rSeq (rIfS (rT (rBin eqD (rCB (g1 lenD) (rCons (rVar 4) rNil)) (rCB (g1 lenD) (rCons (rVar 1) rNil))))
  (rFrz 2 (rRet (rTup (rCons (rVar 4) (rCons (rVar 2) rNil)))))
  rNext)
  (t_rounds_1_b_2 a_Desk))
def t_rounds_1_b (a_Desk : Addr) : RS := (rSeq (rSet 4 (rCall (sp_ranked a_Desk) (rCons (rVar 0) (rCons (rVar 1) rNil))))
  (t_rounds_1_b_1 a_Desk))
def t_rounds_1 (a_Desk : Addr) : RS := (rWhile (rT (rC (.bl true)))
  (t_rounds_1_b a_Desk))
def t_rounds (a_Desk : Addr) : RS := (rSeq (rPar3 1 2 3 (rCB (g1 listOfD) (rCons (rVar 0) rNil)) rDctH (rC (.int 0)))
  (t_rounds_1 a_Desk))
-- ranks_of
abbrev s_ranks_of : Stmt := (top 28)
abbrev N_ranks_of : List Str := ["desk", "ranks", "state"]
theorem sc_ranks_of : FnScope N_ranks_of ["desk"] (defScope s_ranks_of) := ⟨rfl, rfl, rfl, by decide +kernel, rfl, by decide +kernel, by decide +kernel⟩
def t_ranks_of (a_Desk : Addr) : RS := (rSeq (rSet 1 (rBin ixD (rCall (sp_rounds a_Desk) (rCons (rFld a_Desk "rows" (rVar 0)) rNil)) (rC (.int 0))))
  (rRet (rDc [2] (iIt (rCB (g1 sortD2) (rCons (rVar 1) rNil))) (gNm 2) rYes (rVar 2) (rBin ixD (rVar 1) (rVar 2)))))
-- is_viable
abbrev s_is_viable : Stmt := (top 29)
abbrev N_is_viable : List Str := ["desk"]
theorem sc_is_viable : FnScope N_is_viable ["desk"] (defScope s_is_viable) := ⟨rfl, rfl, rfl, by decide +kernel, rfl, by decide +kernel, by decide +kernel⟩
def t_is_viable (a_Desk : Addr) : RS := (rRet (rBin inV (rFld a_Desk "first" (rVar 0)) (rCall (sp_ranks_of a_Desk) (rCons (rVar 0) rNil))))
-- lies_in
abbrev s_lies_in : Stmt := (top 23)
abbrev N_lies_in : List Str := ["lot", "other", "thing"]
theorem sc_lies_in : FnScope N_lies_in ["lot", "other"] (defScope s_lies_in) := ⟨rfl, rfl, rfl, by decide +kernel, rfl, by decide +kernel, by decide +kernel⟩
def t_lies_in (a_Desk : Addr) : RS := (rRet (rAndV (rBin neD (rVar 0) (rVar 1)) (rCB (g1 allD) (rCons (rLC [2] (iIt (rVar 0)) (gNm 2) rYes (rBin inV (rVar 2) (rVar 1))) rNil))))
-- least_of
abbrev s_least_of : Stmt := (top 24)
abbrev N_least_of : List Str := ["lots", "lot", "other"]
theorem sc_least_of : FnScope N_least_of ["lots"] (defScope s_least_of) := ⟨rfl, rfl, rfl, by decide +kernel, rfl, by decide +kernel, by decide +kernel⟩
def t_least_of (a_Desk : Addr) : RS := (rRet (rLC [1] (iIt (rVar 0)) (gNm 1) (rNot (rT (rCB (g1 anyD) (rCons (rLC [2] (iIt (rVar 0)) (gNm 2) rYes (rCall (sp_lies_in a_Desk) (rCons (rVar 2) (rCons (rVar 1) rNil)))) rNil)))) (rVar 1)))
-- rescues
abbrev s_rescues : Stmt := (top 31)
abbrev N_rescues : List Str := ["desk", "lot"]
theorem sc_rescues : FnScope N_rescues ["desk"] (defScope s_rescues) := ⟨rfl, rfl, rfl, by decide +kernel, rfl, by decide +kernel, by decide +kernel⟩
def t_rescues (a_Desk : Addr) : RS := (rSeq (rDrop (rCall (sp_check_desk a_Desk) (rCons (rVar 0) rNil)))
  (rRet (rCall (sp_least_of a_Desk) (rCons (rLC [1] (iIt (rCall (sp_droppable_from a_Desk) (rCons (rVar 0) rNil))) (gNm 1) (rT (rCall (sp_is_viable a_Desk) (rCons (rCall (sp_without a_Desk) (rCons (rVar 0) (rCons (rVar 1) rNil))) rNil))) (rVar 1)) rNil))))
-- l_exact
abbrev s_l_exact : Stmt := (top 44)
abbrev N_l_exact : List Str := ["_law_mine", "_law_theirs", "_law_alike", "_law_a", "_law_b", "_law_key"]
theorem sc_l_exact : FnScope N_l_exact ["_law_mine", "_law_theirs"] (defScope s_l_exact) := ⟨rfl, rfl, rfl, by decide +kernel, rfl, by decide +kernel, by decide +kernel⟩
def t_l_exact_2 (E : Spec) (a_Desk : Addr) : RS := (rRet (rAndV (rBin eqD (rIsi "bool" (rVar 0)) (rIsi "bool" (rVar 1))) (rBin eqD (rVar 0) (rVar 1))))
def t_l_exact_1 (E : Spec) (a_Desk : Addr) : RS := (rSeq (rIfS (rT (rIsi "dict" (rVar 0)))
  (rSeq (rSet 2 (rAndV (rIsi "dict" (rVar 1)) (rCall E (rCons (rCB (g1 listOfD) (rCons (rVar 0) rNil)) (rCons (rCB (g1 listOfD) (rCons (rVar 1) rNil)) rNil)))))
  (rRet (rAndV (rVar 2) (rCB (g1 allD) (rCons (rLC [5] (iIt (rVar 0)) (gNm 5) rYes (rCall E (rCons (rBin ixD (rVar 0) (rVar 5)) (rCons (rBin ixD (rVar 1) (rVar 5)) rNil)))) rNil)))))
  rNext)
  (t_l_exact_2 E a_Desk))
def t_l_exact (E : Spec) (a_Desk : Addr) : RS := (rSeq (rIfS (rT (rIsi2 "list" "tuple" (rVar 0)))
  (rSeq (rSet 2 (rAndV (rBin eqD (rIsi "list" (rVar 1)) (rIsi "list" (rVar 0))) (rBin eqD (rIsi "tuple" (rVar 1)) (rIsi "tuple" (rVar 0)))))
  (rRet (rAndV (rVar 2) (rAndV (rBin eqD (rCB (g1 lenD) (rCons (rVar 0) rNil)) (rCB (g1 lenD) (rCons (rVar 1) rNil))) (rCB (g1 allD) (rCons (rLC [3, 4] (iZip (rVar 0) (rVar 1)) (gTp 2 (gCs (gNm 3) (gCs (gNm 4) gNl))) rYes (rCall E (rCons (rVar 3) (rCons (rVar 4) rNil)))) rNil))))))
  rNext)
  (t_l_exact_1 E a_Desk))
-- is_word_at
abbrev s_is_word_at : Stmt := (top 33)
abbrev N_is_word_at : List Str := ["value", "part"]
theorem sc_is_word_at : FnScope N_is_word_at ["value"] (defScope s_is_word_at) := ⟨rfl, rfl, rfl, by decide +kernel, rfl, by decide +kernel, by decide +kernel⟩
def t_is_word_at (a_Desk : Addr) : RS := (rRet (rAndV (rIsi "tuple" (rVar 0)) (rAndV (rBin eqD (rCB (g1 lenD) (rCons (rVar 0) rNil)) (rC (.int 2))) (rCB (g1 allD) (rCons (rLC [1] (iIt (rVar 0)) (gNm 1) rYes (rCall (sp_is_spelt a_Desk) (rCons (rVar 1) rNil))) rNil)))))
-- is_ascending
abbrev s_is_ascending : Stmt := (top 9)
abbrev N_is_ascending : List Str := ["values", "at"]
theorem sc_is_ascending : FnScope N_is_ascending ["values"] (defScope s_is_ascending) := ⟨rfl, rfl, rfl, by decide +kernel, rfl, by decide +kernel, by decide +kernel⟩
def t_is_ascending (a_Desk : Addr) : RS := (rRet (rCB (g1 allD) (rCons (rLC [1] (iRng2 (rC (.int 1)) (rCB (g1 lenD) (rCons (rVar 0) rNil))) (gNm 1) rYes (rBin ltD2 (rBin ixD (rVar 0) (rBin subD (rVar 1) (rC (.int 1)))) (rBin ixD (rVar 0) (rVar 1)))) rNil)))
-- is_list_of
abbrev s_is_list_of : Stmt := (top 34)
abbrev N_is_list_of : List Str := ["desk", "kind", "value", "known", "item"]
theorem sc_is_list_of : FnScope N_is_list_of ["desk", "kind", "value"] (defScope s_is_list_of) := ⟨rfl, rfl, rfl, by decide +kernel, rfl, by decide +kernel, by decide +kernel⟩
def t_is_list_of (a_Desk : Addr) : RS := (rSeq (rIfS (rOr (rNot (rT (rIsi "list" (rVar 2)))) (rOr (rNot (rT (rCB (g1 allD) (rCons (rLC [4] (iIt (rVar 2)) (gNm 4) rYes (rCall (sp_is_word_at a_Desk) (rCons (rVar 4) rNil))) rNil)))) (rNot (rT (rCall (sp_is_ascending a_Desk) (rCons (rVar 2) rNil))))))
  (rRet (rC (.bl false)))
  rNext)
  (rSeq (rSet 3 (rCall (sp_words_at a_Desk) (rCons (rVar 0) (rCons (rVar 1) rNil))))
  (rRet (rAndV (rCB (g1 allD) (rCons (rLC [4] (iIt (rVar 2)) (gNm 4) rYes (rBin inV (rVar 4) (rVar 3))) rNil)) (rCall (sp_are_left a_Desk) (rCons (rVar 0) (rCons (rVar 2) rNil)))))))
-- check_lot
abbrev s_check_lot : Stmt := (top 35)
abbrev N_check_lot : List Str := ["desk", "lot"]
theorem sc_check_lot : FnScope N_check_lot ["desk", "lot"] (defScope s_check_lot) := ⟨rfl, rfl, rfl, by decide +kernel, rfl, by decide +kernel, by decide +kernel⟩
def t_check_lot (a_Desk : Addr) : RS := (rSeq (rDrop (rCall (sp_check_desk a_Desk) (rCons (rVar 0) rNil)))
  (rIfS (rNot (rT (rCall (sp_is_list_of a_Desk) (rCons (rVar 0) (rCons (rC (.str "says")) (rCons (rVar 1) rNil))))))
  rDead
  rNext))
-- dropped
abbrev s_dropped : Stmt := (top 36)
abbrev N_dropped : List Str := ["desk", "lot"]
theorem sc_dropped : FnScope N_dropped ["desk", "lot"] (defScope s_dropped) := ⟨rfl, rfl, rfl, by decide +kernel, rfl, by decide +kernel, by decide +kernel⟩
def t_dropped (a_Desk : Addr) : RS := (rSeq (rDrop (rCall (sp_check_lot a_Desk) (rCons (rVar 0) (rCons (rVar 1) rNil))))
  (rRet (rCall (sp_without a_Desk) (rCons (rVar 0) (rCons (rVar 1) rNil)))))
-- has_partner
abbrev s_has_partner : Stmt := (top 30)
abbrev N_has_partner : List Str := ["desk"]
theorem sc_has_partner : FnScope N_has_partner ["desk"] (defScope s_has_partner) := ⟨rfl, rfl, rfl, by decide +kernel, rfl, by decide +kernel, by decide +kernel⟩
def t_has_partner (a_Desk : Addr) : RS := (rSeq (rDrop (rCall (sp_check_desk a_Desk) (rCons (rVar 0) rNil)))
  (rRet (rCall (sp_is_viable a_Desk) (rCons (rVar 0) rNil))))
-- Desk_start
abbrev s_Desk_start : Stmt := (inClass (top 15) 2)
abbrev N_Desk_start : List Str := ["self"]
theorem sc_Desk_start : FnScope N_Desk_start ["self"] (defScope s_Desk_start) := ⟨rfl, rfl, rfl, by decide +kernel, rfl, by decide +kernel, by decide +kernel⟩
def t_Desk_start (a_Desk : Addr) : RS := (rRet (rFld a_Desk "first" (rVar 0)))
-- Desk_book
abbrev s_Desk_book : Stmt := (inClass (top 15) 1)
abbrev N_Desk_book : List Str := ["self", "state"]
theorem sc_Desk_book : FnScope N_Desk_book ["self"] (defScope s_Desk_book) := ⟨rfl, rfl, rfl, by decide +kernel, rfl, by decide +kernel, by decide +kernel⟩
def t_Desk_book (a_Desk : Addr) : RS := (rRet (rDc [1] (iIt (rFld a_Desk "rows" (rVar 0))) (gNm 1) rYes (rVar 1) (rCall (sp_copied a_Desk) (rCons (rBin ixD (rFld a_Desk "rows" (rVar 0)) (rVar 1)) rNil))))
-- Desk___eq__
abbrev s_Desk___eq__ : Stmt := (inClass (top 15) 3)
abbrev N_Desk___eq__ : List Str := ["self", "other"]
theorem sc_Desk___eq__ : FnScope N_Desk___eq__ ["self", "other"] (defScope s_Desk___eq__) := ⟨rfl, rfl, rfl, by decide +kernel, rfl, by decide +kernel, by decide +kernel⟩
def t_Desk___eq__ (a_Desk : Addr) : RS := (rRet (rAndV (rIsiC a_Desk (rVar 1)) (rAndV (rBin eqD (rFld a_Desk "rows" (rVar 0)) (rFld a_Desk "rows" (rVar 1))) (rBin eqD (rFld a_Desk "first" (rVar 0)) (rFld a_Desk "first" (rVar 1))))))
-- l_stays
abbrev s_l_stays : Stmt := (top 55)
abbrev N_l_stays : List Str := ["_law_world_here", "_law_desk_here", "_law_book", "_law_state", "_law_word_here"]
theorem sc_l_stays : FnScope N_l_stays ["_law_world_here", "_law_desk_here"] (defScope s_l_stays) := ⟨rfl, rfl, rfl, by decide +kernel, rfl, by decide +kernel, by decide +kernel⟩
def t_l_stays (a_Desk : Addr) : RS := (rSeq (rSet 2 (rCB (g1 dictOfD) (rCons (rLC [3] (iIt (rCB (g1 sortD2) (rCons (rBin ixD (rVar 0) (rC (.int 0))) rNil))) (gNm 3) rYes (rTup (rCons (rVar 3) (rCons (rTup (rCons (rBin ixD (rBin ixD (rBin ixD (rVar 0) (rC (.int 0))) (rVar 3)) (rC (.int 0))) (rCons (rCB (g1 dictOfD) (rCons (rLC [4] (iIt (rCB (g1 sortD2) (rCons (rBin ixD (rBin ixD (rBin ixD (rVar 0) (rC (.int 0))) (rVar 3)) (rC (.int 1))) rNil))) (gNm 4) rYes (rTup (rCons (rVar 4) (rCons (rBin ixD (rBin ixD (rBin ixD (rBin ixD (rVar 0) (rC (.int 0))) (rVar 3)) (rC (.int 1))) (rVar 4)) rNil)))) rNil)) rNil))) rNil)))) rNil)))
  (rRet (rAndV (rCall (sp_l_exact a_Desk) (rCons (rLst (rCons (rMeth0 a_Desk "book" (sp_Desk_book a_Desk) (rVar 1)) (rCons (rMeth0 a_Desk "start" (sp_Desk_start a_Desk) (rVar 1)) rNil))) (rCons (rLst (rCons (rVar 2) (rCons (rBin ixD (rVar 0) (rC (.int 1))) rNil))) rNil))) (rEqO a_Desk (sp_Desk___eq__ a_Desk) (rVar 1) (rCall (sp_l_desk a_Desk) (rCons (rVar 0) rNil))))))
-- l_turned_book
abbrev s_l_turned_book : Stmt := (top 54)
abbrev N_l_turned_book : List Str := ["_law_world_here", "_law_state"]
theorem sc_l_turned_book : FnScope N_l_turned_book ["_law_world_here"] (defScope s_l_turned_book) := ⟨rfl, rfl, rfl, by decide +kernel, rfl, by decide +kernel, by decide +kernel⟩
def t_l_turned_book (a_Desk : Addr) : RS := (rRet (rMake a_Desk (spI_Desk a_Desk) (rCons (rCB (g1 dictOfD) (rCons (rLC [1] (iIt (rRev (rCB (g1 listOfD) (rCons (rBin ixD (rVar 0) (rC (.int 0))) rNil)))) (gNm 1) rYes (rTup (rCons (rVar 1) (rCons (rTup (rCons (rBin ixD (rBin ixD (rBin ixD (rVar 0) (rC (.int 0))) (rVar 1)) (rC (.int 0))) (rCons (rCB (g1 dictOfD) (rCons (rRev (rList_items (rBin ixD (rBin ixD (rBin ixD (rVar 0) (rC (.int 0))) (rVar 1)) (rC (.int 1))))) rNil)) rNil))) rNil)))) rNil)) (rCons (rBin ixD (rVar 0) (rC (.int 1))) rNil))))
-- l_rescues_right
abbrev s_l_rescues_right : Stmt := (top 59)
abbrev N_l_rescues_right : List Str := ["_law_purse_here", "_law_world_here", "_law_desk_here", "_law_due", "_law_told", "_law_lot", "_law_late", "_law_item", "_law_other"]
theorem sc_l_rescues_right : FnScope N_l_rescues_right ["_law_purse_here", "_law_world_here"] (defScope s_l_rescues_right) := ⟨rfl, rfl, rfl, by decide +kernel, rfl, by decide +kernel, by decide +kernel⟩
def t_l_rescues_right_3_b_2_b (a_Desk : Addr) : RS := (rIfS (rT (rBin nisV (rCall (sp_has_partner a_Desk) (rCons (rCall (sp_dropped a_Desk) (rCons (rVar 2) (rCons (rLC [8] (iIt (rVar 5)) (gNm 8) (rT (rBin neD (rVar 8) (rVar 7))) (rVar 8)) rNil))) rNil)) (rC (.bl false))))
  (rRet (rC (.bl false)))
  rNext)
def t_l_rescues_right_3_b_2 (a_Desk : Addr) : RS := (rFor (iIt (rVar 5)) (gNm 7)
  (t_l_rescues_right_3_b_2_b a_Desk))
def t_l_rescues_right_3_b_1 (a_Desk : Addr) : RS := (rSeq (rIfS (rOr (rT (rBin nisV (rCall (sp_has_partner a_Desk) (rCons (rVar 6) rNil)) (rC (.bl true)))) (rNot (rT (rCall (sp_l_stays a_Desk) (rCons (rCall (sp_l_without a_Desk) (rCons (rVar 1) (rCons (rVar 5) rNil))) (rCons (rVar 6) rNil))))))
  (rRet (rC (.bl false)))
  rNext)
  (t_l_rescues_right_3_b_2 a_Desk))
def t_l_rescues_right_3_b (a_Desk : Addr) : RS := (rSeq (rSet 6 (rCall (sp_dropped a_Desk) (rCons (rVar 2) (rCons (rCB (g1 listOfD) (rCons (rVar 5) rNil)) rNil))))
  (t_l_rescues_right_3_b_1 a_Desk))
def t_l_rescues_right_7 (a_Desk : Addr) : RS := (rRet (rAndV (rCall (sp_l_exact a_Desk) (rCons (rCall (sp_has_partner a_Desk) (rCons (rVar 2) rNil)) (rCons (rBin eqD (rVar 3) (rLst (rCons (rLst rNil) rNil))) rNil))) (rCall (sp_l_stays a_Desk) (rCons (rVar 1) (rCons (rVar 2) rNil)))))
def t_l_rescues_right_6 (a_Desk : Addr) : RS := (rSeq (rIfS (rNot (rT (rCall (sp_l_exact a_Desk) (rCons (rLst (rCons (rCall (sp_rescues a_Desk) (rCons (rVar 2) rNil)) (rCons (rCall (sp_rescues a_Desk) (rCons (rCall (sp_l_turned_book a_Desk) (rCons (rVar 1) rNil)) rNil)) rNil))) (rCons (rLst (rCons (rVar 3) (rCons (rVar 3) rNil))) rNil)))))
  (rRet (rC (.bl false)))
  rNext)
  (t_l_rescues_right_7 a_Desk))
def t_l_rescues_right_5 (a_Desk : Addr) : RS := (rSeq (rDrop (rMut appM (rVar 4) (rCons (rLst rNil) rNil)))
  (t_l_rescues_right_6 a_Desk))
def t_l_rescues_right_4 (a_Desk : Addr) : RS := (rSeq (rIfS (rT (rBin neD (rVar 4) (rLst rNil)))
  (rDrop (rMut appM (rBin ixD (rVar 4) (rC (.int 0))) (rCons (rC .non) rNil)))
  rNext)
  (t_l_rescues_right_5 a_Desk))
def t_l_rescues_right_3 (a_Desk : Addr) : RS := (rSeq (rFor (iIt (rVar 3)) (gNm 5)
  (t_l_rescues_right_3_b a_Desk))
  (t_l_rescues_right_4 a_Desk))
def t_l_rescues_right_2 (a_Desk : Addr) : RS := (rFrz 4 (rSeq (rIfS (rNot (rT (rCall (sp_l_exact a_Desk) (rCons (rVar 4) (rCons (rVar 3) rNil)))))
  (rRet (rC (.bl false)))
  rNext)
  (t_l_rescues_right_3 a_Desk)))
def t_l_rescues_right_1 (a_Desk : Addr) : RS := (rSeq (rSet 4 (rCall (sp_rescues a_Desk) (rCons (rVar 2) rNil)))
  (t_l_rescues_right_2 a_Desk))
def t_l_rescues_right (a_Desk : Addr) : RS := (rSeq (rPar 2 3 (rCall (sp_l_desk a_Desk) (rCons (rVar 1) rNil)) (rCall (sp_l_own_rescues a_Desk) (rCons (rVar 1) rNil)))
  (t_l_rescues_right_1 a_Desk))
end DL
/-! ## KD_Desk___eq__ -/
namespace DL
open PySem PySem.Spec PyProof.Rows L2
theorem d_Desk___eq__ {P : Program} {w : World} {K : PySem.W.Frag} {mg : Str → Option Value} {base : Heap} {a_Desk : Addr} (T : TX w K mg a_Desk)  {f : Addr} (cdv : Value) (A : Around) (outer : List Env) (s : Shared) (H : Hp) (E : XK) (pu : Option Addr) (hr : Room 2 (A.deeper (envOfC "Desk.__eq__" (defScope s_Desk___eq__) s.heap.objs.size f cdv))) :
    DSs (cxOf CX0 P w K mg base N_Desk___eq__ "Desk.__eq__" (defScope s_Desk___eq__) f cdv A outer s H E).nox pu (defBody s_Desk___eq__) (t_Desk___eq__ a_Desk) := by
  have nd := sc_Desk___eq__.nd
  have hu := hu_of hr
  have hu64 := hr.units
  exact (dss_one (ds_ret (de_and (de_isiC (de_var 1) rfl T.m_isinstance rfl T.m_Desk T.i_Desk) (de_and (de_cmp (d2_eq hu64) (de_fld (de_var 0) T.c_Desk T.n_Desk_rows) (de_fld (de_var 1) T.c_Desk T.n_Desk_rows) rfl) (de_one (de_cmp (d2_eq hu64) (de_fld (de_var 0) T.c_Desk T.n_Desk_first) (de_fld (de_var 1) T.c_Desk T.n_Desk_first) rfl))))))
end DL
/-! ## KD_Desk___init__ -/
namespace DL
open PySem PySem.Spec PyProof.Rows L2
theorem d_Desk___init__ {P : Program} {w : World} {K : PySem.W.Frag} {mg : Str → Option Value} {base : Heap} {a_Desk : Addr} (T : TX w K mg a_Desk) (G_is_book : FnD P w K mg base 7 "is_book" (sp_is_book a_Desk)) (G_is_spelt : FnD P w K mg base 3 "is_spelt" (sp_is_spelt a_Desk)) (G_copied : FnD P w K mg base 3 "copied" (sp_copied a_Desk)) {f : Addr} (cdv : Value) (A : Around) (outer : List Env) (s : Shared) (H : Hp) (E : XK) (pu : Option Addr) (hr : Room 8 (A.deeper (envOfC "Desk.__init__" (defScope s_Desk___init__) s.heap.objs.size f cdv))) :
    DSs (cxOf CX0 P w K mg base N_Desk___init__ "Desk.__init__" (defScope s_Desk___init__) f cdv A outer s H E).nox pu (defBody s_Desk___init__) (t_Desk___init__ a_Desk) := by
  have nd := sc_Desk___init__.nd
  have hu := hu_of hr
  have hu64 := hr.units
  exact (dss_cons (ds_if (dt_not (dt_of (de_call G_is_book (hr.mono (by decide)) rfl (da_cons (de_var 1) da_nil))))
  (dss_one ds_dead)
  dss_nil)
  (dss_cons (ds_if (dt_bool (dw_or (dt_not (dt_of (de_call G_is_spelt (hr.mono (by decide)) rfl (da_cons (de_var 2) da_nil)))) (dw_one_or (dt_cmp (d2_nin hu64) (de_var 2) (de_var 1) rfl))))
  (dss_one ds_dead)
  dss_nil)
  (dss_cons (ds_fld (de_var 0) (de_dc (own := [("state", 3)]) rfl nd (di_it (de_cb (dc_sorted2 rfl hu64) rfl T.m_sorted (by decide +kernel) (da_cons (de_var 1) da_nil))) (blkOk_by (by rfl)) (by decide) (fun _ _ _ _ _ => (dg_name 3 nd rfl (.inl rfl))) (fun _ _ _ _ _ => dts_nil) (fun _ _ _ _ _ => (de_var 3)) (fun _ _ _ _ _ => (de_call G_copied (hr.mono (by decide)) rfl (da_cons (de_ix (di_ix hu) (de_var 1) (de_var 3) (fun _ _ => rfl)) da_nil)))) T.c_Desk T.n_Desk_rows)
  (dss_one (ds_fld (de_var 0) (de_var 2) T.c_Desk T.n_Desk_first)))))
end DL
/-! ## KD_Desk_book -/
namespace DL
open PySem PySem.Spec PyProof.Rows L2
theorem d_Desk_book {P : Program} {w : World} {K : PySem.W.Frag} {mg : Str → Option Value} {base : Heap} {a_Desk : Addr} (T : TX w K mg a_Desk) (G_copied : FnD P w K mg base 3 "copied" (sp_copied a_Desk)) {f : Addr} (cdv : Value) (A : Around) (outer : List Env) (s : Shared) (H : Hp) (E : XK) (pu : Option Addr) (hr : Room 4 (A.deeper (envOfC "Desk.book" (defScope s_Desk_book) s.heap.objs.size f cdv))) :
    DSs (cxOf CX0 P w K mg base N_Desk_book "Desk.book" (defScope s_Desk_book) f cdv A outer s H E).nox pu (defBody s_Desk_book) (t_Desk_book a_Desk) := by
  have nd := sc_Desk_book.nd
  have hu := hu_of hr
  have hu64 := hr.units
  exact (dss_one (ds_ret (de_dc (own := [("state", 1)]) rfl nd (di_it (de_fld (de_var 0) T.c_Desk T.n_Desk_rows)) (blkOk_by (by rfl)) (by decide) (fun _ _ _ _ _ => (dg_name 1 nd rfl (.inl rfl))) (fun _ _ _ _ _ => dts_nil) (fun _ _ _ _ _ => (de_var 1)) (fun _ _ _ _ _ => (de_call G_copied (hr.mono (by decide)) rfl (da_cons (de_ix (di_ix hu) (de_fld (de_var 0) T.c_Desk T.n_Desk_rows) (de_var 1) (fun _ _ => rfl)) da_nil))))))
end DL
/-! ## KD_Desk_start -/
namespace DL
open PySem PySem.Spec PyProof.Rows L2
theorem d_Desk_start {P : Program} {w : World} {K : PySem.W.Frag} {mg : Str → Option Value} {base : Heap} {a_Desk : Addr} (T : TX w K mg a_Desk)  {f : Addr} (cdv : Value) (A : Around) (outer : List Env) (s : Shared) (H : Hp) (E : XK) (pu : Option Addr) (hr : Room 2 (A.deeper (envOfC "Desk.start" (defScope s_Desk_start) s.heap.objs.size f cdv))) :
    DSs (cxOf CX0 P w K mg base N_Desk_start "Desk.start" (defScope s_Desk_start) f cdv A outer s H E).nox pu (defBody s_Desk_start) (t_Desk_start a_Desk) := by
  have nd := sc_Desk_start.nd
  have hu := hu_of hr
  have hu64 := hr.units
  exact (dss_one (ds_ret (de_fld (de_var 0) T.c_Desk T.n_Desk_first)))
end DL
/-! ## KD_are_left -/
namespace DL
open PySem PySem.Spec PyProof.Rows L2
theorem d_are_left {P : Program} {w : World} {K : PySem.W.Frag} {mg : Str → Option Value} {base : Heap} {a_Desk : Addr} (T : TX w K mg a_Desk)  {f : Addr} (cdv : Value) (A : Around) (outer : List Env) (s : Shared) (H : Hp) (E : XK) (pu : Option Addr) (hr : Room 2 (A.deeper (envOfC "are_left" (defScope s_are_left) s.heap.objs.size f cdv))) :
    DSs (cxOf CX0 P w K mg base N_are_left "are_left" (defScope s_are_left) f cdv A outer s H E).nox pu (defBody s_are_left) (t_are_left a_Desk) := by
  have nd := sc_are_left.nd
  have hu := hu_of hr
  have hu64 := hr.units
  exact (dss_cons (ds_for PassesOwn.never rfl (di_items (de_fld (de_var 0) T.c_Desk T.n_Desk_rows)) (dg_tup rfl (dgs_cons (dg_name 2 nd rfl (.inr rfl)) (dgs_cons (dg_tup rfl (dgs_cons (dg_name 3 nd rfl (.inl rfl)) (dgs_cons (dg_name 4 nd rfl (.inl rfl)) dgs_nil))) dgs_nil)))
  (dss_one (ds_if (dt_bool (dw_and (dt_cmp (d2_ne hu64) (de_var 4) de_dct0 rfl) (dw_one_and (dt_of (de_cb (dc_all rfl) rfl T.m_all (by decide +kernel) (da_cons (de_lc (own := [("word", 5)]) rfl nd (di_it (de_var 4)) (blkOk_by (by rfl)) (by decide) (fun _ _ _ _ _ => (dg_name 5 nd rfl (.inl rfl))) (fun _ _ _ _ _ => dts_nil) (fun _ _ _ _ _ => (de_cmp (d2_in hu64) (de_tup (da_cons (de_var 2) (da_cons (de_var 5) da_nil))) (de_var 1) rfl))) da_nil))))))
  (dss_one (ds_ret de_bl))
  dss_nil)))
  (dss_one (ds_ret de_bl)))
end DL
/-! ## KD_check_desk -/
namespace DL
open PySem PySem.Spec PyProof.Rows L2
theorem d_check_desk {P : Program} {w : World} {K : PySem.W.Frag} {mg : Str → Option Value} {base : Heap} {a_Desk : Addr} (T : TX w K mg a_Desk)  {f : Addr} (cdv : Value) (A : Around) (outer : List Env) (s : Shared) (H : Hp) (E : XK) (pu : Option Addr) (hr : Room 2 (A.deeper (envOfC "check_desk" (defScope s_check_desk) s.heap.objs.size f cdv))) :
    DSs (cxOf CX0 P w K mg base N_check_desk "check_desk" (defScope s_check_desk) f cdv A outer s H E).nox pu (defBody s_check_desk) (t_check_desk a_Desk) := by
  have nd := sc_check_desk.nd
  have hu := hu_of hr
  have hu64 := hr.units
  exact (dss_one (ds_if (dt_not (dt_of (de_isiC (de_var 0) rfl T.m_isinstance rfl T.m_Desk T.i_Desk)))
  (dss_one ds_dead)
  dss_nil))
end DL
/-! ## KD_check_lot -/
namespace DL
open PySem PySem.Spec PyProof.Rows L2
theorem d_check_lot {P : Program} {w : World} {K : PySem.W.Frag} {mg : Str → Option Value} {base : Heap} {a_Desk : Addr} (T : TX w K mg a_Desk) (G_check_desk : FnD P w K mg base 3 "check_desk" (sp_check_desk a_Desk)) (G_is_list_of : FnD P w K mg base 7 "is_list_of" (sp_is_list_of a_Desk)) {f : Addr} (cdv : Value) (A : Around) (outer : List Env) (s : Shared) (H : Hp) (E : XK) (pu : Option Addr) (hr : Room 8 (A.deeper (envOfC "check_lot" (defScope s_check_lot) s.heap.objs.size f cdv))) :
    DSs (cxOf CX0 P w K mg base N_check_lot "check_lot" (defScope s_check_lot) f cdv A outer s H E).nox pu (defBody s_check_lot) (t_check_lot a_Desk) := by
  have nd := sc_check_lot.nd
  have hu := hu_of hr
  have hu64 := hr.units
  exact (dss_cons (ds_expr (de_call G_check_desk (hr.mono (by decide)) rfl (da_cons (de_var 0) da_nil)))
  (dss_one (ds_if (dt_not (dt_of (de_call G_is_list_of (hr.mono (by decide)) rfl (da_cons (de_var 0) (da_cons de_str (da_cons (de_var 1) da_nil))))))
  (dss_one ds_dead)
  dss_nil)))
end DL
/-! ## KD_copied -/
namespace DL
open PySem PySem.Spec PyProof.Rows L2
theorem d_copied {P : Program} {w : World} {K : PySem.W.Frag} {mg : Str → Option Value} {base : Heap} {a_Desk : Addr} (T : TX w K mg a_Desk)  {f : Addr} (cdv : Value) (A : Around) (outer : List Env) (s : Shared) (H : Hp) (E : XK) (pu : Option Addr) (hr : Room 2 (A.deeper (envOfC "copied" (defScope s_copied) s.heap.objs.size f cdv))) :
    DSs (cxOf CX0 P w K mg base N_copied "copied" (defScope s_copied) f cdv A outer s H E).nox pu (defBody s_copied) (t_copied a_Desk) := by
  have nd := sc_copied.nd
  have hu := hu_of hr
  have hu64 := hr.units
  exact (dss_cons (ds_asg (de_var 0) (dg_tup rfl (dgs_cons (dg_name 1 nd rfl (.inl rfl)) (dgs_cons (dg_name 2 nd rfl (.inr rfl)) dgs_nil))))
  (dss_one (ds_ret (de_tup (da_cons (de_var 1) (da_cons (de_dc (own := [("word", 3)]) rfl nd (di_it (de_cb (dc_sorted2 rfl hu64) rfl T.m_sorted (by decide +kernel) (da_cons (de_var 2) da_nil))) (blkOk_by (by rfl)) (by decide) (fun _ _ _ _ _ => (dg_name 3 nd rfl (.inl rfl))) (fun _ _ _ _ _ => dts_nil) (fun _ _ _ _ _ => (de_var 3)) (fun _ _ _ _ _ => (de_ix (di_ix hu) (de_var 2) (de_var 3) (fun _ _ => rfl)))) da_nil))))))
end DL
/-! ## KD_droppable_from -/
namespace DL
open PySem PySem.Spec PyProof.Rows L2
theorem d_droppable_from {P : Program} {w : World} {K : PySem.W.Frag} {mg : Str → Option Value} {base : Heap} {a_Desk : Addr} (T : TX w K mg a_Desk) (G_words_at : FnD P w K mg base 3 "words_at" (sp_words_at a_Desk)) (G_lots_of : FnD P w K mg base 3 "lots_of" (sp_lots_of a_Desk)) (G_are_left : FnD P w K mg base 3 "are_left" (sp_are_left a_Desk)) {f : Addr} (cdv : Value) (A : Around) (outer : List Env) (s : Shared) (H : Hp) (E : XK) (pu : Option Addr) (hr : Room 4 (A.deeper (envOfC "droppable_from" (defScope s_droppable_from) s.heap.objs.size f cdv))) :
    DSs (cxOf CX0 P w K mg base N_droppable_from "droppable_from" (defScope s_droppable_from) f cdv A outer s H E).nox pu (defBody s_droppable_from) (t_droppable_from a_Desk) := by
  have nd := sc_droppable_from.nd
  have hu := hu_of hr
  have hu64 := hr.units
  exact (dss_one (ds_ret (de_lc (own := [("lot", 1)]) rfl nd (di_it (de_call G_lots_of (hr.mono (by decide)) rfl (da_cons (de_call G_words_at (hr.mono (by decide)) rfl (da_cons (de_var 0) (da_cons de_str da_nil))) da_nil))) (blkOk_by (by rfl)) (by decide) (fun _ _ _ _ _ => (dg_name 1 nd rfl (.inl rfl))) (fun _ _ _ _ _ => (dts_one (dt_of (de_call G_are_left (hr.mono (by decide)) rfl (da_cons (de_var 0) (da_cons (de_var 1) da_nil)))))) (fun _ _ _ _ _ => (de_var 1)))))
end DL
/-! ## KD_dropped -/
namespace DL
open PySem PySem.Spec PyProof.Rows L2
theorem d_dropped {P : Program} {w : World} {K : PySem.W.Frag} {mg : Str → Option Value} {base : Heap} {a_Desk : Addr} (T : TX w K mg a_Desk) (G_check_lot : FnD P w K mg base 9 "check_lot" (sp_check_lot a_Desk)) (G_without : FnD P w K mg base 11 "without" (sp_without a_Desk)) {f : Addr} (cdv : Value) (A : Around) (outer : List Env) (s : Shared) (H : Hp) (E : XK) (pu : Option Addr) (hr : Room 12 (A.deeper (envOfC "dropped" (defScope s_dropped) s.heap.objs.size f cdv))) :
    DSs (cxOf CX0 P w K mg base N_dropped "dropped" (defScope s_dropped) f cdv A outer s H E).nox pu (defBody s_dropped) (t_dropped a_Desk) := by
  have nd := sc_dropped.nd
  have hu := hu_of hr
  have hu64 := hr.units
  exact (dss_cons (ds_expr (de_call G_check_lot (hr.mono (by decide)) rfl (da_cons (de_var 0) (da_cons (de_var 1) da_nil))))
  (dss_one (ds_ret (de_call G_without (hr.mono (by decide)) rfl (da_cons (de_var 0) (da_cons (de_var 1) da_nil))))))
end DL
/-! ## KD_has_partner -/
namespace DL
open PySem PySem.Spec PyProof.Rows L2
theorem d_has_partner {P : Program} {w : World} {K : PySem.W.Frag} {mg : Str → Option Value} {base : Heap} {a_Desk : Addr} (T : TX w K mg a_Desk) (G_check_desk : FnD P w K mg base 3 "check_desk" (sp_check_desk a_Desk)) (G_is_viable : FnD P w K mg base 9 "is_viable" (sp_is_viable a_Desk)) {f : Addr} (cdv : Value) (A : Around) (outer : List Env) (s : Shared) (H : Hp) (E : XK) (pu : Option Addr) (hr : Room 10 (A.deeper (envOfC "has_partner" (defScope s_has_partner) s.heap.objs.size f cdv))) :
    DSs (cxOf CX0 P w K mg base N_has_partner "has_partner" (defScope s_has_partner) f cdv A outer s H E).nox pu (defBody s_has_partner) (t_has_partner a_Desk) := by
  have nd := sc_has_partner.nd
  have hu := hu_of hr
  have hu64 := hr.units
  exact (dss_cons (ds_expr (de_call G_check_desk (hr.mono (by decide)) rfl (da_cons (de_var 0) da_nil)))
  (dss_one (ds_ret (de_call G_is_viable (hr.mono (by decide)) rfl (da_cons (de_var 0) da_nil)))))
end DL
/-! ## KD_is_ascending -/
namespace DL
open PySem PySem.Spec PyProof.Rows L2
theorem d_is_ascending {P : Program} {w : World} {K : PySem.W.Frag} {mg : Str → Option Value} {base : Heap} {a_Desk : Addr} (T : TX w K mg a_Desk)  {f : Addr} (cdv : Value) (A : Around) (outer : List Env) (s : Shared) (H : Hp) (E : XK) (pu : Option Addr) (hr : Room 2 (A.deeper (envOfC "is_ascending" (defScope s_is_ascending) s.heap.objs.size f cdv))) :
    DSs (cxOf CX0 P w K mg base N_is_ascending "is_ascending" (defScope s_is_ascending) f cdv A outer s H E).nox pu (defBody s_is_ascending) (t_is_ascending a_Desk) := by
  have nd := sc_is_ascending.nd
  have hu := hu_of hr
  have hu64 := hr.units
  exact (dss_one (ds_ret (de_cb (dc_all rfl) rfl T.m_all (by decide +kernel) (da_cons (de_lc (own := [("at", 1)]) rfl nd (di_rng2 rfl T.m_range de_int (de_cb dc_len rfl T.m_len (by decide +kernel) (da_cons (de_var 0) da_nil))) (blkOk_by (by rfl)) (by decide) (fun _ _ _ _ _ => (dg_name 1 nd rfl (.inl rfl))) (fun _ _ _ _ _ => dts_nil) (fun _ _ _ _ _ => (de_cmp (d2_lt2 hu64) (de_ix (di_ix hu) (de_var 0) (de_bin d2_sub (de_var 1) de_int) (fun _ _ => rfl)) (de_ix (di_ix hu) (de_var 0) (de_var 1) (fun _ _ => rfl)) rfl))) da_nil))))
end DL
/-! ## KD_is_book -/
namespace DL
open PySem PySem.Spec PyProof.Rows L2
theorem d_is_book {P : Program} {w : World} {K : PySem.W.Frag} {mg : Str → Option Value} {base : Heap} {a_Desk : Addr} (T : TX w K mg a_Desk) (G_is_spelt : FnD P w K mg base 3 "is_spelt" (sp_is_spelt a_Desk)) (G_is_row : FnD P w K mg base 5 "is_row" (sp_is_row a_Desk)) {f : Addr} (cdv : Value) (A : Around) (outer : List Env) (s : Shared) (H : Hp) (E : XK) (pu : Option Addr) (hr : Room 6 (A.deeper (envOfC "is_book" (defScope s_is_book) s.heap.objs.size f cdv))) :
    DSs (cxOf CX0 P w K mg base N_is_book "is_book" (defScope s_is_book) f cdv A outer s H E).nox pu (defBody s_is_book) (t_is_book a_Desk) := by
  have nd := sc_is_book.nd
  have hu := hu_of hr
  have hu64 := hr.units
  exact (dss_cons (ds_if (dt_bool (dw_or (dt_not (dt_of (de_isi (de_var 0) rfl T.m_isinstance rfl T.m_dict (by decide +kernel)))) (dw_or (dt_cmp (d2_eq hu64) (de_var 0) de_dct0 rfl) (dw_one_or (dt_not (dt_of (de_cb (dc_all rfl) rfl T.m_all (by decide +kernel) (da_cons (de_lc (own := [("state", 1)]) rfl nd (di_it (de_var 0)) (blkOk_by (by rfl)) (by decide) (fun _ _ _ _ _ => (dg_name 1 nd rfl (.inl rfl))) (fun _ _ _ _ _ => dts_nil) (fun _ _ _ _ _ => (de_call G_is_spelt (hr.mono (by decide)) rfl (da_cons (de_var 1) da_nil)))) da_nil))))))))
  (dss_one (ds_ret de_bl))
  dss_nil)
  (dss_cons (ds_if (dt_not (dt_of (de_cb (dc_all rfl) rfl T.m_all (by decide +kernel) (da_cons (de_lc (own := [("row", 2)]) rfl nd (di_vals (de_var 0)) (blkOk_by (by rfl)) (by decide) (fun _ _ _ _ _ => (dg_name 2 nd rfl (.inl rfl))) (fun _ _ _ _ _ => dts_nil) (fun _ _ _ _ _ => (de_call G_is_row (hr.mono (by decide)) rfl (da_cons (de_var 2) da_nil)))) da_nil))))
  (dss_one (ds_ret de_bl))
  dss_nil)
  (dss_one (ds_ret (de_cb (dc_all rfl) rfl T.m_all (by decide +kernel) (da_cons (de_lc2 (own := [("kind", 3), ("turns", 4), ("goal", 5)]) (vs1 := [5]) rfl nd (di_vals (de_var 0)) (blkOk_by (by rfl)) (by decide) (by decide) (by decide) (fun _ _ _ _ _ => (dg_tup rfl (dgs_cons (dg_name 3 nd rfl (.inl rfl)) (dgs_cons (dg_name 4 nd rfl (.inl rfl)) dgs_nil)))) (fun _ _ _ _ _ => dts_nil) (fun _ _ _ _ _ => (di_vals (de_var 4))) (fun _ _ _ _ _ => (dg_name 5 nd rfl (.inl rfl))) (fun _ _ _ _ _ => dts_nil) (fun _ _ _ _ _ => (de_cmp (d2_in hu64) (de_var 5) (de_var 0) rfl))) da_nil))))))
end DL
/-! ## KD_is_list_of -/
namespace DL
open PySem PySem.Spec PyProof.Rows L2
theorem d_is_list_of {P : Program} {w : World} {K : PySem.W.Frag} {mg : Str → Option Value} {base : Heap} {a_Desk : Addr} (T : TX w K mg a_Desk) (G_is_word_at : FnD P w K mg base 5 "is_word_at" (sp_is_word_at a_Desk)) (G_is_ascending : FnD P w K mg base 3 "is_ascending" (sp_is_ascending a_Desk)) (G_words_at : FnD P w K mg base 3 "words_at" (sp_words_at a_Desk)) (G_are_left : FnD P w K mg base 3 "are_left" (sp_are_left a_Desk)) {f : Addr} (cdv : Value) (A : Around) (outer : List Env) (s : Shared) (H : Hp) (E : XK) (pu : Option Addr) (hr : Room 6 (A.deeper (envOfC "is_list_of" (defScope s_is_list_of) s.heap.objs.size f cdv))) :
    DSs (cxOf CX0 P w K mg base N_is_list_of "is_list_of" (defScope s_is_list_of) f cdv A outer s H E).nox pu (defBody s_is_list_of) (t_is_list_of a_Desk) := by
  have nd := sc_is_list_of.nd
  have hu := hu_of hr
  have hu64 := hr.units
  exact (dss_cons (ds_if (dt_bool (dw_or (dt_not (dt_of (de_isi (de_var 2) rfl T.m_isinstance rfl T.m_list (by decide +kernel)))) (dw_or (dt_not (dt_of (de_cb (dc_all rfl) rfl T.m_all (by decide +kernel) (da_cons (de_lc (own := [("item", 4)]) rfl nd (di_it (de_var 2)) (blkOk_by (by rfl)) (by decide) (fun _ _ _ _ _ => (dg_name 4 nd rfl (.inl rfl))) (fun _ _ _ _ _ => dts_nil) (fun _ _ _ _ _ => (de_call G_is_word_at (hr.mono (by decide)) rfl (da_cons (de_var 4) da_nil)))) da_nil)))) (dw_one_or (dt_not (dt_of (de_call G_is_ascending (hr.mono (by decide)) rfl (da_cons (de_var 2) da_nil))))))))
  (dss_one (ds_ret de_bl))
  dss_nil)
  (dss_cons (ds_set 3 nd rfl (.inr rfl) (de_call G_words_at (hr.mono (by decide)) rfl (da_cons (de_var 0) (da_cons (de_var 1) da_nil))))
  (dss_one (ds_ret (de_and (de_cb (dc_all rfl) rfl T.m_all (by decide +kernel) (da_cons (de_lc (own := [("item", 4)]) rfl nd (di_it (de_var 2)) (blkOk_by (by rfl)) (by decide) (fun _ _ _ _ _ => (dg_name 4 nd rfl (.inl rfl))) (fun _ _ _ _ _ => dts_nil) (fun _ _ _ _ _ => (de_cmp (d2_in hu64) (de_var 4) (de_var 3) rfl))) da_nil)) (de_one (de_call G_are_left (hr.mono (by decide)) rfl (da_cons (de_var 0) (da_cons (de_var 2) da_nil)))))))))
end DL
/-! ## KD_is_row -/
namespace DL
open PySem PySem.Spec PyProof.Rows L2
theorem d_is_row {P : Program} {w : World} {K : PySem.W.Frag} {mg : Str → Option Value} {base : Heap} {a_Desk : Addr} (T : TX w K mg a_Desk) (G_is_spelt : FnD P w K mg base 3 "is_spelt" (sp_is_spelt a_Desk)) {f : Addr} (cdv : Value) (A : Around) (outer : List Env) (s : Shared) (H : Hp) (E : XK) (pu : Option Addr) (hr : Room 4 (A.deeper (envOfC "is_row" (defScope s_is_row) s.heap.objs.size f cdv))) :
    DSs (cxOf CX0 P w K mg base N_is_row "is_row" (defScope s_is_row) f cdv A outer s H E).nox pu (defBody s_is_row) (t_is_row a_Desk) := by
  have nd := sc_is_row.nd
  have hu := hu_of hr
  have hu64 := hr.units
  exact (dss_cons (ds_if (dt_bool (dw_or (dt_not (dt_of (de_isi (de_var 0) rfl T.m_isinstance rfl T.m_tuple (by decide +kernel)))) (dw_or (dt_cmp (d2_ne hu64) (de_cb dc_len rfl T.m_len (by decide +kernel) (da_cons (de_var 0) da_nil)) de_int rfl) (dw_one_or (dt_not (dt_of (de_isi (de_ix (di_ix hu) (de_var 0) de_int (fun _ _ => rfl)) rfl T.m_isinstance rfl T.m_str (by decide +kernel))))))))
  (dss_one (ds_ret de_bl))
  dss_nil)
  (dss_cons (ds_if (dt_bool (dw_or (dt_ntur T.t_TURNED rfl (de_ix (di_ix hu) (de_var 0) de_int (fun _ _ => rfl))) (dw_or (dt_not (dt_of (de_isi (de_ix (di_ix hu) (de_var 0) de_int (fun _ _ => rfl)) rfl T.m_isinstance rfl T.m_dict (by decide +kernel)))) (dw_one_or (dt_cmp (d2_ne hu64) (de_cmp (d2_eq hu64) (de_ix (di_ix hu) (de_var 0) de_int (fun _ _ => rfl)) de_str rfl) (de_cmp (d2_eq hu64) (de_ix (di_ix hu) (de_var 0) de_int (fun _ _ => rfl)) de_dct0 rfl) rfl)))))
  (dss_one (ds_ret de_bl))
  dss_nil)
  (dss_one (ds_ret (de_cb (dc_all rfl) rfl T.m_all (by decide +kernel) (da_cons (de_lc (own := [("word", 1)]) rfl nd (di_it (de_ix (di_ix hu) (de_var 0) de_int (fun _ _ => rfl))) (blkOk_by (by rfl)) (by decide) (fun _ _ _ _ _ => (dg_name 1 nd rfl (.inl rfl))) (fun _ _ _ _ _ => dts_nil) (fun _ _ _ _ _ => (de_and (de_call G_is_spelt (hr.mono (by decide)) rfl (da_cons (de_var 1) da_nil)) (de_one (de_call G_is_spelt (hr.mono (by decide)) rfl (da_cons (de_ix (di_ix hu) (de_ix (di_ix hu) (de_var 0) de_int (fun _ _ => rfl)) (de_var 1) (fun _ _ => rfl)) da_nil)))))) da_nil))))))
end DL
/-! ## KD_is_spelt -/
namespace DL
open PySem PySem.Spec PyProof.Rows L2
theorem d_is_spelt {P : Program} {w : World} {K : PySem.W.Frag} {mg : Str → Option Value} {base : Heap} {a_Desk : Addr} (T : TX w K mg a_Desk)  {f : Addr} (cdv : Value) (A : Around) (outer : List Env) (s : Shared) (H : Hp) (E : XK) (pu : Option Addr) (hr : Room 2 (A.deeper (envOfC "is_spelt" (defScope s_is_spelt) s.heap.objs.size f cdv))) :
    DSs (cxOf CX0 P w K mg base N_is_spelt "is_spelt" (defScope s_is_spelt) f cdv A outer s H E).nox pu (defBody s_is_spelt) (t_is_spelt a_Desk) := by
  have nd := sc_is_spelt.nd
  have hu := hu_of hr
  have hu64 := hr.units
  exact (dss_cons (ds_if (dt_bool (dw_or (dt_not (dt_of (de_isi (de_var 0) rfl T.m_isinstance rfl T.m_str (by decide +kernel)))) (dw_one_or (dt_not (dt_chain (d2_lt2 hu64) (d2_lt2 hu64) de_int (de_cb dc_len rfl T.m_len (by decide +kernel) (da_cons (de_var 0) da_nil)) de_int)))))
  (dss_one (ds_ret de_bl))
  dss_nil)
  (dss_cons (ds_for PassesOwn.never rfl (di_it (de_var 0)) (dg_name 1 nd rfl (.inl rfl))
  (dss_one (ds_if (dt_cmp (d2_nin hu64) (de_var 1) (de_gstr rfl T.m_LETTERS.choose_spec) rfl)
  (dss_one (ds_ret de_bl))
  dss_nil)))
  (dss_one (ds_ret de_bl))))
end DL
/-! ## KD_is_viable -/
namespace DL
open PySem PySem.Spec PyProof.Rows L2
theorem d_is_viable {P : Program} {w : World} {K : PySem.W.Frag} {mg : Str → Option Value} {base : Heap} {a_Desk : Addr} (T : TX w K mg a_Desk) (G_ranks_of : FnD P w K mg base 7 "ranks_of" (sp_ranks_of a_Desk)) {f : Addr} (cdv : Value) (A : Around) (outer : List Env) (s : Shared) (H : Hp) (E : XK) (pu : Option Addr) (hr : Room 8 (A.deeper (envOfC "is_viable" (defScope s_is_viable) s.heap.objs.size f cdv))) :
    DSs (cxOf CX0 P w K mg base N_is_viable "is_viable" (defScope s_is_viable) f cdv A outer s H E).nox pu (defBody s_is_viable) (t_is_viable a_Desk) := by
  have nd := sc_is_viable.nd
  have hu := hu_of hr
  have hu64 := hr.units
  exact (dss_one (ds_ret (de_cmp (d2_in hu64) (de_fld (de_var 0) T.c_Desk T.n_Desk_first) (de_call G_ranks_of (hr.mono (by decide)) rfl (da_cons (de_var 0) da_nil)) rfl)))
end DL
/-! ## KD_is_word_at -/
namespace DL
open PySem PySem.Spec PyProof.Rows L2
theorem d_is_word_at {P : Program} {w : World} {K : PySem.W.Frag} {mg : Str → Option Value} {base : Heap} {a_Desk : Addr} (T : TX w K mg a_Desk) (G_is_spelt : FnD P w K mg base 3 "is_spelt" (sp_is_spelt a_Desk)) {f : Addr} (cdv : Value) (A : Around) (outer : List Env) (s : Shared) (H : Hp) (E : XK) (pu : Option Addr) (hr : Room 4 (A.deeper (envOfC "is_word_at" (defScope s_is_word_at) s.heap.objs.size f cdv))) :
    DSs (cxOf CX0 P w K mg base N_is_word_at "is_word_at" (defScope s_is_word_at) f cdv A outer s H E).nox pu (defBody s_is_word_at) (t_is_word_at a_Desk) := by
  have nd := sc_is_word_at.nd
  have hu := hu_of hr
  have hu64 := hr.units
  exact (dss_one (ds_ret (de_and (de_isi (de_var 0) rfl T.m_isinstance rfl T.m_tuple (by decide +kernel)) (de_and (de_cmp (d2_eq hu64) (de_cb dc_len rfl T.m_len (by decide +kernel) (da_cons (de_var 0) da_nil)) de_int rfl) (de_one (de_cb (dc_all rfl) rfl T.m_all (by decide +kernel) (da_cons (de_lc (own := [("part", 1)]) rfl nd (di_it (de_var 0)) (blkOk_by (by rfl)) (by decide) (fun _ _ _ _ _ => (dg_name 1 nd rfl (.inl rfl))) (fun _ _ _ _ _ => dts_nil) (fun _ _ _ _ _ => (de_call G_is_spelt (hr.mono (by decide)) rfl (da_cons (de_var 1) da_nil)))) da_nil)))))))
end DL
/-! ## KD_l_desk -/
namespace DL
open PySem PySem.Spec PyProof.Rows L2
theorem d_l_desk {P : Program} {w : World} {K : PySem.W.Frag} {mg : Str → Option Value} {base : Heap} {a_Desk : Addr} (T : TX w K mg a_Desk) (G_Desk___init__ : InD P w K mg base 9 "Desk" a_Desk (spI_Desk a_Desk)) {f : Addr} (cdv : Value) (A : Around) (outer : List Env) (s : Shared) (H : Hp) (E : XK) (pu : Option Addr) (hr : Room 10 (A.deeper (envOfC "_law_desk" (defScope s_l_desk) s.heap.objs.size f cdv))) :
    DSs (cxOf CX0 P w K mg base N_l_desk "_law_desk" (defScope s_l_desk) f cdv A outer s H E).nox pu (defBody s_l_desk) (t_l_desk a_Desk) := by
  have nd := sc_l_desk.nd
  have hu := hu_of hr
  have hu64 := hr.units
  exact (dss_one (ds_ret (de_make G_Desk___init__ (hr.mono (by decide)) rfl (da_cons (de_ct (dc_dict rfl) rfl T.m_dict (by decide +kernel) (da_cons (de_lc (own := [("_law_state", 1)]) rfl nd (di_it (de_ix (di_ix hu) (de_var 0) de_int (fun _ _ => rfl))) (blkOk_by (by rfl)) (by decide) (fun _ _ _ _ _ => (dg_name 1 nd rfl (.inl rfl))) (fun _ _ _ _ _ => dts_nil) (fun _ _ _ _ _ => (de_tup (da_cons (de_var 1) (da_cons (de_tup (da_cons (de_ix (di_ix hu) (de_ix (di_ix hu) (de_ix (di_ix hu) (de_var 0) de_int (fun _ _ => rfl)) (de_var 1) (fun _ _ => rfl)) de_int (fun _ _ => rfl)) (da_cons (de_ct (dc_dict rfl) rfl T.m_dict (by decide +kernel) (da_cons (de_ix (di_ix hu) (de_ix (di_ix hu) (de_ix (di_ix hu) (de_var 0) de_int (fun _ _ => rfl)) (de_var 1) (fun _ _ => rfl)) de_int (fun _ _ => rfl)) da_nil)) da_nil))) da_nil))))) da_nil)) (da_cons (de_ix (di_ix hu) (de_var 0) de_int (fun _ _ => rfl)) da_nil)))))
end DL
/-! ## KD_l_draw -/
namespace DL
open PySem PySem.Spec PyProof.Rows L2
theorem d_l_draw {P : Program} {w : World} {K : PySem.W.Frag} {mg : Str → Option Value} {base : Heap} {a_Desk : Addr} (T : TX w K mg a_Desk) (G_l_mixed : FnD P w K mg base 3 "_law_mixed" (sp_l_mixed a_Desk)) {f : Addr} (cdv : Value) (A : Around) (outer : List Env) (s : Shared) (H : Hp) (E : XK) (pu : Option Addr) (hr : Room 4 (A.deeper (envOfC "_law_draw" (defScope s_l_draw) s.heap.objs.size f cdv))) :
    DSs (cxOf CX0 P w K mg base N_l_draw "_law_draw" (defScope s_l_draw) f cdv A outer s H E).nox pu (defBody s_l_draw) (t_l_draw a_Desk) := by
  have nd := sc_l_draw.nd
  have hu := hu_of hr
  have hu64 := hr.units
  exact (dss_cons (ds_if (dt_cmp d2_gt (de_pur 0 0 (by decide)) de_int rfl)
  (dss_cons (ds_set 2 nd rfl (.inl rfl) (de_bin d2_mod (de_ct dc_int rfl T.m_int (by decide +kernel) (da_cons (de_pur 0 0 (by decide)) da_nil)) (de_var 1)))
  (dss_cons (ds_pur 0 0 (by decide) (de_bin d2_fdiv (de_pur 0 0 (by decide)) (de_var 1)))
  (dss_one (ds_ret (de_var 2)))))
  dss_nil)
  (dss_cons (ds_set 3 nd rfl (.inl rfl) de_int)
  (dss_cons (ds_for PassesOwn.never rfl (di_rng rfl T.m_range (de_bin d2_add de_int (de_bin d2_fdiv (de_bits (de_var 1)) de_int))) (dg_name 4 nd rfl (.inl rfl))
  (dss_cons (ds_pur 0 2 (by decide) (de_bin d2_add (de_pur 0 2 (by decide)) de_int))
  (dss_one (ds_set 3 nd rfl (.inl rfl) (de_bin d2_add (de_bin d2_mul (de_var 3) de_int) (de_call G_l_mixed (hr.mono (by decide)) rfl (da_cons (de_pur 0 1 (by decide)) (da_cons (de_pur 0 2 (by decide)) (da_cons (de_pur 0 3 (by decide)) da_nil)))))))))
  (dss_one (ds_ret (de_bin d2_mod (de_ct dc_int rfl T.m_int (by decide +kernel) (da_cons (de_var 3) da_nil)) (de_var 1)))))))
end DL
/-! ## KD_l_exact -/
namespace DL
open PySem PySem.Spec PyProof.Rows L2
theorem d_l_exact {P : Program} {w : World} {K : PySem.W.Frag} {mg : Str → Option Value} {base : Heap} {a_Desk : Addr} (T : TX w K mg a_Desk) {lv : Nat} {E0 : Spec} (G_l_exact : FnD P w K mg base lv "_law_exact" E0) {f : Addr} (cdv : Value) (A : Around) (outer : List Env) (s : Shared) (H : Hp) (E : XK) (pu : Option Addr) (hr : Room lv (A.deeper (envOfC "_law_exact" (defScope s_l_exact) s.heap.objs.size f cdv))) :
    DSs (cxOf CX0 P w K mg base N_l_exact "_law_exact" (defScope s_l_exact) f cdv A outer s H E).nox pu (defBody s_l_exact) (t_l_exact E0 a_Desk) := by
  have nd := sc_l_exact.nd
  have hu := hu_of hr
  have hu64 := hr.units
  exact (dss_cons (ds_if (dt_of (de_isi2 (de_var 0) rfl T.m_isinstance rfl T.m_list (by decide +kernel) rfl T.m_tuple (by decide +kernel)))
  (dss_cons (ds_set 2 nd rfl (.inl rfl) (de_and (de_cmp (d2_eq hu64) (de_isi (de_var 1) rfl T.m_isinstance rfl T.m_list (by decide +kernel)) (de_isi (de_var 0) rfl T.m_isinstance rfl T.m_list (by decide +kernel)) rfl) (de_one (de_cmp (d2_eq hu64) (de_isi (de_var 1) rfl T.m_isinstance rfl T.m_tuple (by decide +kernel)) (de_isi (de_var 0) rfl T.m_isinstance rfl T.m_tuple (by decide +kernel)) rfl))))
  (dss_one (ds_ret (de_and (de_var 2) (de_and (de_cmp (d2_eq hu64) (de_cb dc_len rfl T.m_len (by decide +kernel) (da_cons (de_var 0) da_nil)) (de_cb dc_len rfl T.m_len (by decide +kernel) (da_cons (de_var 1) da_nil)) rfl) (de_one (de_cb (dc_all rfl) rfl T.m_all (by decide +kernel) (da_cons (de_lc (own := [("_law_a", 3), ("_law_b", 4)]) rfl nd (di_zip rfl T.m_zip (de_var 0) (de_var 1)) (blkOk_by (by rfl)) (by decide) (fun _ _ _ _ _ => (dg_tup rfl (dgs_cons (dg_name 3 nd rfl (.inl rfl)) (dgs_cons (dg_name 4 nd rfl (.inl rfl)) dgs_nil)))) (fun _ _ _ _ _ => dts_nil) (fun _ _ _ _ _ => (de_call G_l_exact hr rfl (da_cons (de_var 3) (da_cons (de_var 4) da_nil))))) da_nil))))))))
  dss_nil)
  (dss_cons (ds_if (dt_of (de_isi (de_var 0) rfl T.m_isinstance rfl T.m_dict (by decide +kernel)))
  (dss_cons (ds_set 2 nd rfl (.inl rfl) (de_and (de_isi (de_var 1) rfl T.m_isinstance rfl T.m_dict (by decide +kernel)) (de_one (de_call G_l_exact hr rfl (da_cons (de_ct (dc_list rfl) rfl T.m_list (by decide +kernel) (da_cons (de_var 0) da_nil)) (da_cons (de_ct (dc_list rfl) rfl T.m_list (by decide +kernel) (da_cons (de_var 1) da_nil)) da_nil))))))
  (dss_one (ds_ret (de_and (de_var 2) (de_one (de_cb (dc_all rfl) rfl T.m_all (by decide +kernel) (da_cons (de_lc (own := [("_law_key", 5)]) rfl nd (di_it (de_var 0)) (blkOk_by (by rfl)) (by decide) (fun _ _ _ _ _ => (dg_name 5 nd rfl (.inl rfl))) (fun _ _ _ _ _ => dts_nil) (fun _ _ _ _ _ => (de_call G_l_exact hr rfl (da_cons (de_ix (di_ix hu) (de_var 0) (de_var 5) (fun _ _ => rfl)) (da_cons (de_ix (di_ix hu) (de_var 1) (de_var 5) (fun _ _ => rfl)) da_nil))))) da_nil)))))))
  dss_nil)
  (dss_one (ds_ret (de_and (de_cmp (d2_eq hu64) (de_isi (de_var 0) rfl T.m_isinstance rfl T.m_bool (by decide +kernel)) (de_isi (de_var 1) rfl T.m_isinstance rfl T.m_bool (by decide +kernel)) rfl) (de_one (de_cmp (d2_eq hu64) (de_var 0) (de_var 1) rfl)))))))
end DL
/-! ## KD_l_mixed -/
namespace DL
open PySem PySem.Spec PyProof.Rows L2
theorem d_l_mixed {P : Program} {w : World} {K : PySem.W.Frag} {mg : Str → Option Value} {base : Heap} {a_Desk : Addr} (T : TX w K mg a_Desk)  {f : Addr} (cdv : Value) (A : Around) (outer : List Env) (s : Shared) (H : Hp) (E : XK) (pu : Option Addr) (hr : Room 2 (A.deeper (envOfC "_law_mixed" (defScope s_l_mixed) s.heap.objs.size f cdv))) :
    DSs (cxOf CX0 P w K mg base N_l_mixed "_law_mixed" (defScope s_l_mixed) f cdv A outer s H E).nox pu (defBody s_l_mixed) (t_l_mixed a_Desk) := by
  have nd := sc_l_mixed.nd
  have hu := hu_of hr
  have hu64 := hr.units
  exact (dss_cons (ds_set 3 nd rfl (.inl rfl) (de_bin d2_add (de_bin d2_mul (de_var 0) de_int) (de_bin d2_mul (de_bin d2_mul de_int (de_var 1)) (de_var 1))))
  (dss_cons (ds_set 3 nd rfl (.inl rfl) (de_bin d2_mod (de_ct dc_int rfl T.m_int (by decide +kernel) (da_cons (de_bin d2_add (de_bin d2_add (de_var 3) (de_bin d2_mul de_int (de_var 2))) (de_var 1)) da_nil)) de_int))
  (dss_cons (ds_set 3 nd rfl (.inl rfl) (de_bin d2_mod (de_ct dc_int rfl T.m_int (by decide +kernel) (da_cons (de_bin d2_add (de_bin d2_mul (de_var 3) (de_var 3)) de_int) da_nil)) de_int))
  (dss_one (ds_ret (de_bin d2_mod (de_ct dc_int rfl T.m_int (by decide +kernel) (da_cons (de_bin d2_mul (de_var 3) de_int) da_nil)) de_int))))))
end DL
/-! ## KD_l_one_of -/
namespace DL
open PySem PySem.Spec PyProof.Rows L2
theorem d_l_one_of {P : Program} {w : World} {K : PySem.W.Frag} {mg : Str → Option Value} {base : Heap} {a_Desk : Addr} (T : TX w K mg a_Desk) (G_l_draw : FnD P w K mg base 5 "_law_draw" (sp_l_draw a_Desk)) {f : Addr} (cdv : Value) (A : Around) (outer : List Env) (s : Shared) (H : Hp) (E : XK) (pu : Option Addr) (hr : Room 6 (A.deeper (envOfC "_law_one_of" (defScope s_l_one_of) s.heap.objs.size f cdv))) :
    DSs (cxOf CX0 P w K mg base N_l_one_of "_law_one_of" (defScope s_l_one_of) f cdv A outer s H E).nox pu (defBody s_l_one_of) (t_l_one_of a_Desk) := by
  have nd := sc_l_one_of.nd
  have hu := hu_of hr
  have hu64 := hr.units
  exact (dss_one (ds_ret (de_ix (di_ix hu) (de_var 1) (de_call G_l_draw (hr.mono (by decide)) rfl (da_cons (de_var 0) (da_cons (de_cb dc_len rfl T.m_len (by decide +kernel) (da_cons (de_var 1) da_nil)) da_nil))) (fun _ _ => rfl))))
end DL
/-! ## KD_l_own_rescues -/
namespace DL
open PySem PySem.Spec PyProof.Rows L2
theorem d_l_own_rescues {P : Program} {w : World} {K : PySem.W.Frag} {mg : Str → Option Value} {base : Heap} {a_Desk : Addr} (T : TX w K mg a_Desk) (G_l_said_words : FnD P w K mg base 3 "_law_said_words" (sp_l_said_words a_Desk)) (G_l_without : FnD P w K mg base 3 "_law_without" (sp_l_without a_Desk)) (G_l_viable : FnD P w K mg base 3 "_law_viable" (sp_l_viable a_Desk)) {f : Addr} (cdv : Value) (A : Around) (outer : List Env) (s : Shared) (H : Hp) (E : XK) (pu : Option Addr) (hr : Room 4 (A.deeper (envOfC "_law_own_rescues" (defScope s_l_own_rescues) s.heap.objs.size f cdv))) :
    DSs (cxOf CX0 P w K mg base N_l_own_rescues "_law_own_rescues" (defScope s_l_own_rescues) f cdv A outer s H E).nox pu (defBody s_l_own_rescues) (t_l_own_rescues a_Desk) := by
  have nd := sc_l_own_rescues.nd
  have hu := hu_of hr
  have hu64 := hr.units
  exact (dss_cons (ds_set 1 nd rfl (.inl rfl) (de_lst (da_cons (de_lst da_nil) da_nil)))
  (dss_cons (ds_for PassesOwn.never rfl (di_it (de_call G_l_said_words (hr.mono (by decide)) rfl (da_cons (de_var 0) da_nil))) (dg_name 2 nd rfl (.inr rfl))
  (dss_one (ds_set 1 nd rfl (.inl rfl) (de_bin d2_add (de_var 1) (de_lc (own := [("_law_lot", 4)]) rfl nd (di_it (de_var 1)) (blkOk_by (by rfl)) (by decide) (fun _ _ _ _ _ => (dg_name 4 nd rfl (.inl rfl))) (fun _ _ _ _ _ => dts_nil) (fun _ _ _ _ _ => (de_bin d2_add (de_var 4) (de_lst (da_cons (de_var 2) da_nil)))))))))
  (dss_cons (ds_set 3 nd rfl (.inr rfl) (de_lstH da_nil))
  (dss_cons (ds_for PassesOwn.never rfl (di_it (de_var 1)) (dg_name 4 nd rfl (.inl rfl))
  (dss_cons (ds_set 5 nd rfl (.inl rfl) (de_call G_l_without (hr.mono (by decide)) rfl (da_cons (de_var 0) (da_cons (de_var 4) da_nil))))
  (dss_one (ds_if (dt_bool (dw_and (dt_cmp d2_nis (de_var 5) de_non rfl) (dw_one_and (dt_cmp (d2_in hu64) (de_ix (di_ix hu) (de_var 0) de_int (fun _ _ => rfl)) (de_call G_l_viable (hr.mono (by decide)) rfl (da_cons (de_var 5) da_nil)) rfl))))
  (dss_one (ds_expr (de_mut PySem.F.slot_list_append PySem.F.type_list_append dm_append (de_var 3) (da_cons (de_var 4) da_nil))))
  dss_nil))))
  (dss_frz 3 (dss_cons (ds_setLc 6 (own := [("_law_lot", 4)]) rfl nd rfl rfl (by rfl) (di_it (de_var 3)) (blkOk_by (by rfl)) (by decide) (fun _ _ _ _ _ => (dg_name 4 nd rfl (.inr rfl))) (fun _ _ _ _ _ => (dts_one (dt_not (dt_of (de_cb (dc_any rfl) rfl T.m_any (by decide +kernel) (da_cons (de_lc (own := [("_law_other", 7)]) rfl nd (di_it (de_var 3)) (blkOk_by (by rfl)) (by decide) (fun _ _ _ _ _ => (dg_name 7 nd rfl (.inl rfl))) (fun _ _ _ _ _ => dts_nil) (fun _ _ _ _ _ => (de_and (de_cmp (d2_ne hu64) (de_var 7) (de_var 4) rfl) (de_one (de_cb (dc_all rfl) rfl T.m_all (by decide +kernel) (da_cons (de_lc (own := [("_law_item", 2)]) rfl nd (di_it (de_var 7)) (blkOk_by (by rfl)) (by decide) (fun _ _ _ _ _ => (dg_name 2 nd rfl (.inl rfl))) (fun _ _ _ _ _ => dts_nil) (fun _ _ _ _ _ => (de_cmp (d2_in hu64) (de_var 2) (de_var 4) rfl))) da_nil)))))) da_nil)))))) (fun _ _ _ _ _ => (de_var 4)))
  (dss_one (ds_ret (de_cb (dc_sorted2 rfl hu64) rfl T.m_sorted (by decide +kernel) (da_cons (de_var 6) da_nil))))))))))
end DL
/-! ## KD_l_pool -/
namespace DL
open PySem PySem.Spec PyProof.Rows L2
theorem d_l_pool {P : Program} {w : World} {K : PySem.W.Frag} {mg : Str → Option Value} {base : Heap} {a_Desk : Addr} (T : TX w K mg a_Desk) (G_l_words : FnD P w K mg base 9 "_law_words" (sp_l_words a_Desk)) (G_l_draw : FnD P w K mg base 5 "_law_draw" (sp_l_draw a_Desk)) (G_l_shuffled : FnD P w K mg base 7 "_law_shuffled" (sp_l_shuffled a_Desk)) {f : Addr} (cdv : Value) (A : Around) (outer : List Env) (s : Shared) (H : Hp) (E : XK) (pu : Option Addr) (hr : Room 10 (A.deeper (envOfC "_law_pool" (defScope s_l_pool) s.heap.objs.size f cdv))) :
    DSs (cxOf CX0 P w K mg base N_l_pool "_law_pool" (defScope s_l_pool) f cdv A outer s H E).nox pu (defBody s_l_pool) (t_l_pool a_Desk) := by
  have nd := sc_l_pool.nd
  have hu := hu_of hr
  have hu64 := hr.units
  exact (dss_cons (ds_set 1 nd rfl (.inr rfl) (de_call G_l_words (hr.mono (by decide)) rfl (da_cons (de_var 0) (da_cons de_int da_nil))))
  (dss_cons (ds_if (dt_cmp (d2_eq hu64) (de_call G_l_draw (hr.mono (by decide)) rfl (da_cons (de_var 0) (da_cons de_int da_nil))) de_int rfl)
  (dss_one (ds_set 1 nd rfl (.inr rfl) (de_slice (de_bin d2_add (de_slice (de_lc (own := [("_law_word_here", 2)]) rfl nd (di_it (de_lst (da_cons de_str (da_cons de_str (da_cons de_str (da_cons de_str (da_cons de_str da_nil))))))) (blkOk_by (by rfl)) (by decide) (fun _ _ _ _ _ => (dg_name 2 nd rfl (.inl rfl))) (fun _ _ _ _ _ => (dts_one (dt_cmp (d2_nin hu64) (de_var 2) (de_var 1) rfl))) (fun _ _ _ _ _ => (de_var 2))) do_none (do_some de_int)) (de_var 1)) do_none (do_some de_int))))
  dss_nil)
  (dss_one (ds_ret (de_call G_l_shuffled (hr.mono (by decide)) rfl (da_cons (de_var 0) (da_cons (de_var 1) da_nil)))))))
end DL
/-! ## KD_l_row_of -/
namespace DL
open PySem PySem.Spec PyProof.Rows L2
theorem d_l_row_of {P : Program} {w : World} {K : PySem.W.Frag} {mg : Str → Option Value} {base : Heap} {a_Desk : Addr} (T : TX w K mg a_Desk) (G_l_pool : FnD P w K mg base 11 "_law_pool" (sp_l_pool a_Desk)) (G_l_draw : FnD P w K mg base 5 "_law_draw" (sp_l_draw a_Desk)) (G_l_world : FnD P w K mg base 11 "_law_world" (sp_l_world a_Desk)) (G_l_shape : FnD P w K mg base 11 "_law_shape" (sp_l_shape a_Desk)) {f : Addr} (cdv : Value) (A : Around) (outer : List Env) (s : Shared) (H : Hp) (E : XK) (pu : Option Addr) (hr : Room 12 (A.deeper (envOfC "_law_row_of" (defScope s_l_row_of) s.heap.objs.size f cdv))) :
    DSs (cxOf CX0 P w K mg base N_l_row_of "_law_row_of" (defScope s_l_row_of) f cdv A outer s H E).nox pu (defBody s_l_row_of) (t_l_row_of a_Desk) := by
  have nd := sc_l_row_of.nd
  have hu := hu_of hr
  have hu64 := hr.units
  exact (dss_cons (ds_set 2 nd rfl (.inl rfl) (de_call G_l_pool (hr.mono (by decide)) rfl (da_cons (de_var 0) da_nil)))
  (dss_cons (ds_if (dt_cmp (d2_eq hu64) (de_call G_l_draw (hr.mono (by decide)) rfl (da_cons (de_var 0) (da_cons de_int da_nil))) de_int rfl)
  (dss_one (ds_ret (de_lst (da_cons (de_call G_l_world (hr.mono (by decide)) rfl (da_cons (de_var 0) (da_cons (de_bin d2_add de_int (de_call G_l_draw (hr.mono (by decide)) rfl (da_cons (de_var 0) (da_cons (de_var 1) da_nil)))) (da_cons (de_slice (de_var 2) do_none (do_some de_int)) (da_cons de_int da_nil))))) (da_cons (de_slice (de_var 2) do_none (do_some de_int)) da_nil)))))
  dss_nil)
  (dss_cons (ds_set 3 nd rfl (.inl rfl) (de_slice (de_var 2) do_none (do_some (de_bin d2_add de_int (de_call G_l_draw (hr.mono (by decide)) rfl (da_cons (de_var 0) (da_cons (de_cb (dc_min2 rfl) rfl T.m_min (by decide +kernel) (da_cons de_int (da_cons (de_cb dc_len rfl T.m_len (by decide +kernel) (da_cons (de_var 2) da_nil)) da_nil))) da_nil)))))))
  (dss_cons (ds_if (dt_bool (dw_and (dt_cmp d2_gt (de_cb dc_len rfl T.m_len (by decide +kernel) (da_cons (de_var 3) da_nil)) de_int rfl) (dw_one_and (dt_cmp (d2_eq hu64) (de_call G_l_draw (hr.mono (by decide)) rfl (da_cons (de_var 0) (da_cons de_int da_nil))) de_int rfl))))
  (dss_one (ds_ret (de_lst (da_cons (de_call G_l_shape (hr.mono (by decide)) rfl (da_cons (de_var 0) (da_cons (de_var 3) da_nil))) (da_cons (de_var 3) da_nil)))))
  dss_nil)
  (dss_one (ds_ret (de_lst (da_cons (de_call G_l_world (hr.mono (by decide)) rfl (da_cons (de_var 0) (da_cons (de_bin d2_add de_int (de_call G_l_draw (hr.mono (by decide)) rfl (da_cons (de_var 0) (da_cons (de_var 1) da_nil)))) (da_cons (de_var 3) (da_cons de_int da_nil))))) (da_cons (de_var 3) da_nil)))))))))
end DL
/-! ## KD_l_said_words -/
namespace DL
open PySem PySem.Spec PyProof.Rows L2
theorem d_l_said_words {P : Program} {w : World} {K : PySem.W.Frag} {mg : Str → Option Value} {base : Heap} {a_Desk : Addr} (T : TX w K mg a_Desk)  {f : Addr} (cdv : Value) (A : Around) (outer : List Env) (s : Shared) (H : Hp) (E : XK) (pu : Option Addr) (hr : Room 2 (A.deeper (envOfC "_law_said_words" (defScope s_l_said_words) s.heap.objs.size f cdv))) :
    DSs (cxOf CX0 P w K mg base N_l_said_words "_law_said_words" (defScope s_l_said_words) f cdv A outer s H E).nox pu (defBody s_l_said_words) (t_l_said_words a_Desk) := by
  have nd := sc_l_said_words.nd
  have hu := hu_of hr
  have hu64 := hr.units
  exact (dss_cons (ds_set 1 nd rfl (.inl rfl) (de_lst da_nil))
  (dss_cons (ds_for PassesOwn.never rfl (di_it (de_ix (di_ix hu) (de_var 0) de_int (fun _ _ => rfl))) (dg_name 2 nd rfl (.inr rfl))
  (dss_one (ds_if (dt_cmp (d2_eq hu64) (de_ix (di_ix hu) (de_ix (di_ix hu) (de_ix (di_ix hu) (de_var 0) de_int (fun _ _ => rfl)) (de_var 2) (fun _ _ => rfl)) de_int (fun _ _ => rfl)) de_str rfl)
  (dss_one (ds_set 1 nd rfl (.inl rfl) (de_bin d2_add (de_var 1) (de_lc (own := [("_law_word_here", 3)]) rfl nd (di_it (de_ix (di_ix hu) (de_ix (di_ix hu) (de_ix (di_ix hu) (de_var 0) de_int (fun _ _ => rfl)) (de_var 2) (fun _ _ => rfl)) de_int (fun _ _ => rfl))) (blkOk_by (by rfl)) (by decide) (fun _ _ _ _ _ => (dg_name 3 nd rfl (.inl rfl))) (fun _ _ _ _ _ => dts_nil) (fun _ _ _ _ _ => (de_tup (da_cons (de_var 2) (da_cons (de_var 3) da_nil))))))))
  dss_nil)))
  (dss_one (ds_ret (de_cb (dc_sorted2 rfl hu64) rfl T.m_sorted (by decide +kernel) (da_cons (de_var 1) da_nil))))))
end DL
/-! ## KD_l_shape -/
namespace DL
open PySem PySem.Spec PyProof.Rows L2
theorem d_l_shape {P : Program} {w : World} {K : PySem.W.Frag} {mg : Str → Option Value} {base : Heap} {a_Desk : Addr} (T : TX w K mg a_Desk) (G_l_draw : FnD P w K mg base 5 "_law_draw" (sp_l_draw a_Desk)) (G_l_words : FnD P w K mg base 9 "_law_words" (sp_l_words a_Desk)) {f : Addr} (cdv : Value) (A : Around) (outer : List Env) (s : Shared) (H : Hp) (E : XK) (pu : Option Addr) (hr : Room 10 (A.deeper (envOfC "_law_shape" (defScope s_l_shape) s.heap.objs.size f cdv))) :
    DSs (cxOf CX0 P w K mg base N_l_shape "_law_shape" (defScope s_l_shape) f cdv A outer s H E).nox pu (defBody s_l_shape) (t_l_shape a_Desk) := by
  have nd := sc_l_shape.nd
  have hu := hu_of hr
  have hu64 := hr.units
  exact (dss_cons (ds_par 2 3 rfl nd rfl rfl (by decide) rfl rfl (de_call G_l_draw (hr.mono (by decide)) rfl (da_cons (de_var 0) (da_cons de_int da_nil))) (de_call G_l_words (hr.mono (by decide)) rfl (da_cons (de_var 0) (da_cons de_int da_nil))) (by rfl))
  (dss_cons (ds_asg (de_var 3) (dg_lst rfl (dgs_cons (dg_name 4 nd rfl (.inl rfl)) (dgs_cons (dg_name 5 nd rfl (.inl rfl)) (dgs_cons (dg_name 6 nd rfl (.inl rfl)) (dgs_cons (dg_name 7 nd rfl (.inl rfl)) dgs_nil))))))
  (dss_cons (ds_asg (de_slice (de_var 1) do_none (do_some de_int)) (dg_lst rfl (dgs_cons (dg_name 8 nd rfl (.inl rfl)) (dgs_cons (dg_name 9 nd rfl (.inl rfl)) (dgs_cons (dg_name 10 nd rfl (.inl rfl)) (dgs_cons (dg_name 11 nd rfl (.inl rfl)) dgs_nil))))))
  (dss_cons (ds_if (dt_cmp (d2_eq hu64) (de_var 2) de_int rfl)
  (dss_one (ds_ret (de_lst (da_cons (de_disp (dp_cons (de_var 4) (de_tup (da_cons de_str (da_cons (de_disp (dp_cons (de_var 8) (de_var 4) (dp_cons (de_var 9) (de_var 5) dp_nil))) da_nil))) (dp_cons (de_var 5) (de_tup (da_cons de_str (da_cons de_dct0 da_nil))) dp_nil))) (da_cons (de_var 4) da_nil)))))
  dss_nil)
  (dss_cons (ds_if (dt_cmp (d2_eq hu64) (de_var 2) de_int rfl)
  (dss_one (ds_ret (de_lst (da_cons (de_disp (dp_cons (de_var 4) (de_tup (da_cons de_str (da_cons (de_disp (dp_cons (de_var 8) (de_var 5) (dp_cons (de_var 9) (de_var 6) dp_nil))) da_nil))) (dp_cons (de_var 5) (de_tup (da_cons de_str (da_cons (de_disp (dp_cons (de_var 10) (de_var 4) (dp_cons (de_var 11) (de_var 6) dp_nil))) da_nil))) (dp_cons (de_var 6) (de_tup (da_cons de_str (da_cons de_dct0 da_nil))) dp_nil)))) (da_cons (de_var 4) da_nil)))))
  dss_nil)
  (dss_cons (ds_set 12 nd rfl (.inl rfl) (de_dispH (dp_cons (de_var 4) (de_tup (da_cons de_str (da_cons (de_disp (dp_cons (de_var 8) (de_var 5) (dp_cons (de_var 9) (de_var 6) dp_nil))) da_nil))) (dp_cons (de_var 5) (de_tup (da_cons de_str (da_cons (de_disp (dp_cons (de_var 10) (de_var 4) (dp_cons (de_var 11) (de_var 7) dp_nil))) da_nil))) (dp_cons (de_var 7) (de_tup (da_cons de_str (da_cons de_dct0 da_nil))) dp_nil)))))
  (dss_cons (ds_put hu (de_var 12) (de_var 6) (de_if (dt_cmp (d2_eq hu64) (de_var 2) de_int rfl) (de_tup (da_cons de_str (da_cons (de_disp (dp_cons (de_var 10) (de_var 4) (dp_cons (de_var 11) (de_var 7) dp_nil))) da_nil))) (de_tup (da_cons de_str (da_cons (de_disp (dp_cons (de_var 10) (de_var 6) dp_nil)) da_nil)))))
  (dss_frz 12 (dss_one (ds_ret (de_lst (da_cons (de_var 12) (da_cons (de_var 4) da_nil)))))))))))))
end DL
/-! ## KD_l_shuffled -/
namespace DL
open PySem PySem.Spec PyProof.Rows L2
theorem d_l_shuffled {P : Program} {w : World} {K : PySem.W.Frag} {mg : Str → Option Value} {base : Heap} {a_Desk : Addr} (T : TX w K mg a_Desk) (G_l_draw : FnD P w K mg base 5 "_law_draw" (sp_l_draw a_Desk)) {f : Addr} (cdv : Value) (A : Around) (outer : List Env) (s : Shared) (H : Hp) (E : XK) (pu : Option Addr) (hr : Room 6 (A.deeper (envOfC "_law_shuffled" (defScope s_l_shuffled) s.heap.objs.size f cdv))) :
    DSs (cxOf CX0 P w K mg base N_l_shuffled "_law_shuffled" (defScope s_l_shuffled) f cdv A outer s H E).nox pu (defBody s_l_shuffled) (t_l_shuffled a_Desk) := by
  have nd := sc_l_shuffled.nd
  have hu := hu_of hr
  have hu64 := hr.units
  exact (dss_cons (ds_set 2 nd rfl (.inl rfl) (de_lstH da_nil))
  (dss_cons (ds_for PassesOwn.never rfl (di_it (de_var 1)) (dg_name 3 nd rfl (.inl rfl))
  (dss_one (ds_expr (de_mut PySem.F.slot_list_insert PySem.F.type_list_insert dm_insert (de_var 2) (da_cons (de_call G_l_draw (hr.mono (by decide)) rfl (da_cons (de_var 0) (da_cons (de_bin d2_add (de_cb dc_len rfl T.m_len (by decide +kernel) (da_cons (de_var 2) da_nil)) de_int) da_nil))) (da_cons (de_var 3) da_nil))))))
  (dss_one (ds_ret (de_var 2)))))
end DL
/-! ## KD_l_stays -/
namespace DL
open PySem PySem.Spec PyProof.Rows L2
theorem d_l_stays {P : Program} {w : World} {K : PySem.W.Frag} {mg : Str → Option Value} {base : Heap} {a_Desk : Addr} (T : TX w K mg a_Desk) (G_Desk_start : MtD P w K mg base 3 a_Desk "start" (sp_Desk_start a_Desk)) (G_Desk_book : MtD P w K mg base 5 a_Desk "book" (sp_Desk_book a_Desk)) (G_l_exact : FnD P w K mg base 15 "_law_exact" (sp_l_exact a_Desk)) (G_l_desk : FnD P w K mg base 11 "_law_desk" (sp_l_desk a_Desk)) (G_Desk___eq__ : EqD P w K mg base 3 a_Desk (sp_Desk___eq__ a_Desk)) {f : Addr} (cdv : Value) (A : Around) (outer : List Env) (s : Shared) (H : Hp) (E : XK) (pu : Option Addr) (hr : Room 16 (A.deeper (envOfC "_law_stays" (defScope s_l_stays) s.heap.objs.size f cdv))) :
    DSs (cxOf CX0 P w K mg base N_l_stays "_law_stays" (defScope s_l_stays) f cdv A outer s H E).nox pu (defBody s_l_stays) (t_l_stays a_Desk) := by
  have nd := sc_l_stays.nd
  have hu := hu_of hr
  have hu64 := hr.units
  exact (dss_cons (ds_set 2 nd rfl (.inl rfl) (de_ct (dc_dict rfl) rfl T.m_dict (by decide +kernel) (da_cons (de_lc (own := [("_law_state", 3)]) rfl nd (di_it (de_cb (dc_sorted2 rfl hu64) rfl T.m_sorted (by decide +kernel) (da_cons (de_ix (di_ix hu) (de_var 0) de_int (fun _ _ => rfl)) da_nil))) (blkOk_by (by rfl)) (by decide) (fun _ _ _ _ _ => (dg_name 3 nd rfl (.inr rfl))) (fun _ _ _ _ _ => dts_nil) (fun _ _ _ _ _ => (de_tup (da_cons (de_var 3) (da_cons (de_tup (da_cons (de_ix (di_ix hu) (de_ix (di_ix hu) (de_ix (di_ix hu) (de_var 0) de_int (fun _ _ => rfl)) (de_var 3) (fun _ _ => rfl)) de_int (fun _ _ => rfl)) (da_cons (de_ct (dc_dict rfl) rfl T.m_dict (by decide +kernel) (da_cons (de_lc (own := [("_law_word_here", 4)]) rfl nd (di_it (de_cb (dc_sorted2 rfl hu64) rfl T.m_sorted (by decide +kernel) (da_cons (de_ix (di_ix hu) (de_ix (di_ix hu) (de_ix (di_ix hu) (de_var 0) de_int (fun _ _ => rfl)) (de_var 3) (fun _ _ => rfl)) de_int (fun _ _ => rfl)) da_nil))) (blkOk_by (by rfl)) (by decide) (fun _ _ _ _ _ => (dg_name 4 nd rfl (.inl rfl))) (fun _ _ _ _ _ => dts_nil) (fun _ _ _ _ _ => (de_tup (da_cons (de_var 4) (da_cons (de_ix (di_ix hu) (de_ix (di_ix hu) (de_ix (di_ix hu) (de_ix (di_ix hu) (de_var 0) de_int (fun _ _ => rfl)) (de_var 3) (fun _ _ => rfl)) de_int (fun _ _ => rfl)) (de_var 4) (fun _ _ => rfl)) da_nil))))) da_nil)) da_nil))) da_nil))))) da_nil)))
  (dss_one (ds_ret (de_and (de_call G_l_exact (hr.mono (by decide)) rfl (da_cons (de_lst (da_cons (de_meth0 G_Desk_book (hr.mono (by decide)) (de_var 1)) (da_cons (de_meth0 G_Desk_start (hr.mono (by decide)) (de_var 1)) da_nil))) (da_cons (de_lst (da_cons (de_var 2) (da_cons (de_ix (di_ix hu) (de_var 0) de_int (fun _ _ => rfl)) da_nil))) da_nil))) (de_one (de_eqO G_Desk___eq__ (hr.mono (by decide)) (de_var 1) (de_call G_l_desk (hr.mono (by decide)) rfl (da_cons (de_var 0) da_nil))))))))
end DL
/-! ## KD_l_turned_book -/
namespace DL
open PySem PySem.Spec PyProof.Rows L2
theorem d_l_turned_book {P : Program} {w : World} {K : PySem.W.Frag} {mg : Str → Option Value} {base : Heap} {a_Desk : Addr} (T : TX w K mg a_Desk) (G_Desk___init__ : InD P w K mg base 9 "Desk" a_Desk (spI_Desk a_Desk)) {f : Addr} (cdv : Value) (A : Around) (outer : List Env) (s : Shared) (H : Hp) (E : XK) (pu : Option Addr) (hr : Room 10 (A.deeper (envOfC "_law_turned_book" (defScope s_l_turned_book) s.heap.objs.size f cdv))) :
    DSs (cxOf CX0 P w K mg base N_l_turned_book "_law_turned_book" (defScope s_l_turned_book) f cdv A outer s H E).nox pu (defBody s_l_turned_book) (t_l_turned_book a_Desk) := by
  have nd := sc_l_turned_book.nd
  have hu := hu_of hr
  have hu64 := hr.units
  exact (dss_one (ds_ret (de_make G_Desk___init__ (hr.mono (by decide)) rfl (da_cons (de_ct (dc_dict rfl) rfl T.m_dict (by decide +kernel) (da_cons (de_lc (own := [("_law_state", 1)]) rfl nd (di_it (de_rev (de_ct (dc_list rfl) rfl T.m_list (by decide +kernel) (da_cons (de_ix (di_ix hu) (de_var 0) de_int (fun _ _ => rfl)) da_nil)))) (blkOk_by (by rfl)) (by decide) (fun _ _ _ _ _ => (dg_name 1 nd rfl (.inl rfl))) (fun _ _ _ _ _ => dts_nil) (fun _ _ _ _ _ => (de_tup (da_cons (de_var 1) (da_cons (de_tup (da_cons (de_ix (di_ix hu) (de_ix (di_ix hu) (de_ix (di_ix hu) (de_var 0) de_int (fun _ _ => rfl)) (de_var 1) (fun _ _ => rfl)) de_int (fun _ _ => rfl)) (da_cons (de_ct (dc_dict rfl) rfl T.m_dict (by decide +kernel) (da_cons (de_rev (de_list_items rfl rfl T.m_list (de_ix (di_ix hu) (de_ix (di_ix hu) (de_ix (di_ix hu) (de_var 0) de_int (fun _ _ => rfl)) (de_var 1) (fun _ _ => rfl)) de_int (fun _ _ => rfl)))) da_nil)) da_nil))) da_nil))))) da_nil)) (da_cons (de_ix (di_ix hu) (de_var 0) de_int (fun _ _ => rfl)) da_nil)))))
end DL
/-! ## KD_l_turns -/
namespace DL
open PySem PySem.Spec PyProof.Rows L2
theorem d_l_turns {P : Program} {w : World} {K : PySem.W.Frag} {mg : Str → Option Value} {base : Heap} {a_Desk : Addr} (T : TX w K mg a_Desk) (G_l_draw : FnD P w K mg base 5 "_law_draw" (sp_l_draw a_Desk)) (G_l_shuffled : FnD P w K mg base 7 "_law_shuffled" (sp_l_shuffled a_Desk)) (G_l_one_of : FnD P w K mg base 7 "_law_one_of" (sp_l_one_of a_Desk)) {f : Addr} (cdv : Value) (A : Around) (outer : List Env) (s : Shared) (H : Hp) (E : XK) (pu : Option Addr) (hr : Room 8 (A.deeper (envOfC "_law_turns" (defScope s_l_turns) s.heap.objs.size f cdv))) :
    DSs (cxOf CX0 P w K mg base N_l_turns "_law_turns" (defScope s_l_turns) f cdv A outer s H E).nox pu (defBody s_l_turns) (t_l_turns a_Desk) := by
  have nd := sc_l_turns.nd
  have hu := hu_of hr
  have hu64 := hr.units
  exact (dss_cons (ds_par 5 6 rfl nd rfl rfl (by decide) rfl rfl (de_bin d2_add de_int (de_call G_l_draw (hr.mono (by decide)) rfl (da_cons (de_var 0) (da_cons (de_cb (dc_max2 rfl) rfl T.m_max (by decide +kernel) (da_cons de_int (da_cons (de_cb (dc_min2 rfl) rfl T.m_min (by decide +kernel) (da_cons (de_var 4) (da_cons (de_cb dc_len rfl T.m_len (by decide +kernel) (da_cons (de_var 2) da_nil)) da_nil))) da_nil))) da_nil)))) de_dctH (by rfl))
  (dss_cons (ds_for PassesOwn.never rfl (di_it (de_slice (de_call G_l_shuffled (hr.mono (by decide)) rfl (da_cons (de_var 0) (da_cons (de_var 2) da_nil))) do_none (do_some (de_var 5)))) (dg_name 7 nd rfl (.inl rfl))
  (dss_one (ds_put hu (de_var 6) (de_var 7) (de_call G_l_one_of (hr.mono (by decide)) rfl (da_cons (de_var 0) (da_cons (de_var 1) da_nil))))))
  (dss_cons (ds_if (dt_bool (dw_and (dt_cmp (d2_lt2 hu64) (de_bin d2_add (de_var 3) de_int) (de_cb dc_len rfl T.m_len (by decide +kernel) (da_cons (de_var 1) da_nil)) rfl) (dw_one_and (dt_cmp d2_gt (de_call G_l_draw (hr.mono (by decide)) rfl (da_cons (de_var 0) (da_cons de_int da_nil))) de_int rfl))))
  (dss_one (ds_put hu (de_var 6) (de_call G_l_one_of (hr.mono (by decide)) rfl (da_cons (de_var 0) (da_cons (de_ct (dc_list rfl) rfl T.m_list (by decide +kernel) (da_cons (de_var 6) da_nil)) da_nil))) (de_call G_l_one_of (hr.mono (by decide)) rfl (da_cons (de_var 0) (da_cons (de_slice (de_var 1) (do_some (de_bin d2_add (de_var 3) de_int)) do_none) da_nil)))))
  dss_nil)
  (dss_one (ds_ret (de_var 6))))))
end DL
/-! ## KD_l_viable -/
namespace DL
open PySem PySem.Spec PyProof.Rows L2
theorem d_l_viable {P : Program} {w : World} {K : PySem.W.Frag} {mg : Str → Option Value} {base : Heap} {a_Desk : Addr} (T : TX w K mg a_Desk)  {f : Addr} (cdv : Value) (A : Around) (outer : List Env) (s : Shared) (H : Hp) (E : XK) (pu : Option Addr) (hr : Room 2 (A.deeper (envOfC "_law_viable" (defScope s_l_viable) s.heap.objs.size f cdv))) :
    DSs (cxOf CX0 P w K mg base N_l_viable "_law_viable" (defScope s_l_viable) f cdv A outer s H E).nox pu (defBody s_l_viable) (t_l_viable a_Desk) := by
  have nd := sc_l_viable.nd
  have hu := hu_of hr
  have hu64 := hr.units
  exact (dss_cons (ds_set 1 nd rfl (.inr rfl) (de_ct (dc_dict rfl) rfl T.m_dict (by decide +kernel) (da_cons (de_lc (own := [("_law_state", 5)]) rfl nd (di_it (de_ix (di_ix hu) (de_var 0) de_int (fun _ _ => rfl))) (blkOk_by (by rfl)) (by decide) (fun _ _ _ _ _ => (dg_name 5 nd rfl (.inl rfl))) (fun _ _ _ _ _ => dts_nil) (fun _ _ _ _ _ => (de_tup (da_cons (de_var 5) (da_cons de_bl da_nil))))) da_nil)))
  (dss_cons (ds_for PassesOwn.never rfl (di_rng rfl T.m_range (de_bin d2_add (de_cb dc_len rfl T.m_len (by decide +kernel) (da_cons (de_ix (di_ix hu) (de_var 0) de_int (fun _ _ => rfl)) da_nil)) de_int)) (dg_name 2 nd rfl (.inl rfl))
  (dss_cons (ds_unp rfl (dn_cons 3 nd rfl (.inr rfl) (dn_cons 4 nd rfl (.inl rfl) dn_nil)) (da_cons de_dctH (da_cons (de_neg de_int) da_nil)))
  (dss_cons (ds_while PassesOwn.never (dt_cmp (d2_lt2 hu64) (de_var 4) (de_cb dc_len rfl T.m_len (by decide +kernel) (da_cons (de_var 3) da_nil)) rfl)
  (dss_cons (ds_set 4 nd rfl (.inl rfl) (de_cb dc_len rfl T.m_len (by decide +kernel) (da_cons (de_var 3) da_nil)))
  (dss_one (ds_for PassesOwn.never rfl (di_it (de_lc (own := [("_law_state", 5)]) rfl nd (di_it (de_var 1)) (blkOk_by (by rfl)) (by decide) (fun _ _ _ _ _ => (dg_name 5 nd rfl (.inl rfl))) (fun _ _ _ _ _ => (dts_one (dt_cmp (d2_nin hu64) (de_var 5) (de_var 3) rfl))) (fun _ _ _ _ _ => (de_var 5)))) (dg_name 5 nd rfl (.inl rfl))
  (dss_cons (ds_asg (de_ix (di_ix hu) (de_ix (di_ix hu) (de_var 0) de_int (fun _ _ => rfl)) (de_var 5) (fun _ _ => rfl)) (dg_tup rfl (dgs_cons (dg_name 6 nd rfl (.inl rfl)) (dgs_cons (dg_name 7 nd rfl (.inr rfl)) dgs_nil))))
  (dss_cons (ds_setLc 8 (own := [("_law_word_here", 10)]) rfl nd rfl rfl (by rfl) (di_it (de_var 7)) (blkOk_by (by rfl)) (by decide) (fun _ _ _ _ _ => (dg_name 10 nd rfl (.inl rfl))) (fun _ _ _ _ _ => dts_nil) (fun _ _ _ _ _ => (de_ix (di_ix hu) (de_var 7) (de_var 10) (fun _ _ => rfl))))
  (dss_cons (ds_set 9 nd rfl (.inl rfl) (de_cb (dc_any rfl) rfl T.m_any (by decide +kernel) (da_cons (de_lc (own := [("_law_goal", 11)]) rfl nd (di_it (de_var 8)) (blkOk_by (by rfl)) (by decide) (fun _ _ _ _ _ => (dg_name 11 nd rfl (.inl rfl))) (fun _ _ _ _ _ => dts_nil) (fun _ _ _ _ _ => (de_cmp (d2_in hu64) (de_var 11) (de_var 3) rfl))) da_nil)))
  (dss_one (ds_if (dt_bool (dw_or (dt_cmp (d2_eq hu64) (de_var 6) de_str rfl) (dw_one_or (dt_bool (dw_and (dt_of (de_var 9)) (dw_one_and (dt_bool (dw_or (dt_cmp (d2_eq hu64) (de_var 6) de_str rfl) (dw_one_or (dt_of (de_cb (dc_all rfl) rfl T.m_all (by decide +kernel) (da_cons (de_lc (own := [("_law_goal", 11)]) rfl nd (di_it (de_var 8)) (blkOk_by (by rfl)) (by decide) (fun _ _ _ _ _ => (dg_name 11 nd rfl (.inl rfl))) (fun _ _ _ _ _ => dts_nil) (fun _ _ _ _ _ => (de_cmp (d2_in hu64) (de_var 11) (de_var 1) rfl))) da_nil))))))))))))
  (dss_one (ds_put hu (de_var 3) (de_var 5) de_bl))
  dss_nil)))))))))
  (dss_cons (ds_if (dt_cmp (d2_eq hu64) (de_cb dc_len rfl T.m_len (by decide +kernel) (da_cons (de_var 3) da_nil)) (de_cb dc_len rfl T.m_len (by decide +kernel) (da_cons (de_var 1) da_nil)) rfl)
  (dss_one (ds_ret (de_cb (dc_sorted2 rfl hu64) rfl T.m_sorted (by decide +kernel) (da_cons (de_var 3) da_nil))))
  dss_nil)
  (dss_frz 3 (dss_one (ds_set 1 nd rfl (.inr rfl) (de_var 3))))))))
  (dss_one (ds_ret (de_cb (dc_sorted2 rfl hu64) rfl T.m_sorted (by decide +kernel) (da_cons (de_var 1) da_nil))))))
end DL
/-! ## KD_l_without -/
namespace DL
open PySem PySem.Spec PyProof.Rows L2
theorem d_l_without {P : Program} {w : World} {K : PySem.W.Frag} {mg : Str → Option Value} {base : Heap} {a_Desk : Addr} (T : TX w K mg a_Desk)  {f : Addr} (cdv : Value) (A : Around) (outer : List Env) (s : Shared) (H : Hp) (E : XK) (pu : Option Addr) (hr : Room 2 (A.deeper (envOfC "_law_without" (defScope s_l_without) s.heap.objs.size f cdv))) :
    DSs (cxOf CX0 P w K mg base N_l_without "_law_without" (defScope s_l_without) f cdv A outer s H E).nox pu (defBody s_l_without) (t_l_without a_Desk) := by
  have nd := sc_l_without.nd
  have hu := hu_of hr
  have hu64 := hr.units
  exact (dss_cons (ds_set 2 nd rfl (.inl rfl) de_dctH)
  (dss_cons (ds_for PassesOwn.never rfl (di_it (de_ix (di_ix hu) (de_var 0) de_int (fun _ _ => rfl))) (dg_name 3 nd rfl (.inr rfl))
  (dss_cons (ds_asg (de_ix (di_ix hu) (de_ix (di_ix hu) (de_var 0) de_int (fun _ _ => rfl)) (de_var 3) (fun _ _ => rfl)) (dg_tup rfl (dgs_cons (dg_name 4 nd rfl (.inl rfl)) (dgs_cons (dg_name 5 nd rfl (.inr rfl)) dgs_nil))))
  (dss_cons (ds_put hu (de_var 2) (de_var 3) (de_tup (da_cons (de_var 4) (da_cons (de_ct (dc_dict rfl) rfl T.m_dict (by decide +kernel) (da_cons (de_lc (own := [("_law_word_here", 6)]) rfl nd (di_it (de_var 5)) (blkOk_by (by rfl)) (by decide) (fun _ _ _ _ _ => (dg_name 6 nd rfl (.inl rfl))) (fun _ _ _ _ _ => (dts_one (dt_cmp (d2_nin hu64) (de_tup (da_cons (de_var 3) (da_cons (de_var 6) da_nil))) (de_var 1) rfl))) (fun _ _ _ _ _ => (de_tup (da_cons (de_var 6) (da_cons (de_ix (di_ix hu) (de_var 5) (de_var 6) (fun _ _ => rfl)) da_nil))))) da_nil)) da_nil))))
  (dss_one (ds_if (dt_bool (dw_and (dt_cmp (d2_eq hu64) (de_ix (di_ix hu) (de_ix (di_ix hu) (de_var 2) (de_var 3) (fun _ _ => rfl)) de_int (fun _ _ => rfl)) de_dct0 rfl) (dw_one_and (dt_cmp (d2_ne hu64) (de_var 4) de_str rfl))))
  (dss_one (ds_ret de_non))
  dss_nil)))))
  (dss_frz 2 (dss_one (ds_ret (de_lst (da_cons (de_var 2) (da_cons (de_ix (di_ix hu) (de_var 0) de_int (fun _ _ => rfl)) da_nil))))))))
end DL
/-! ## KD_l_word -/
namespace DL
open PySem PySem.Spec PyProof.Rows L2
theorem d_l_word {P : Program} {w : World} {K : PySem.W.Frag} {mg : Str → Option Value} {base : Heap} {a_Desk : Addr} (T : TX w K mg a_Desk) (G_l_draw : FnD P w K mg base 5 "_law_draw" (sp_l_draw a_Desk)) {f : Addr} (cdv : Value) (A : Around) (outer : List Env) (s : Shared) (H : Hp) (E : XK) (pu : Option Addr) (hr : Room 6 (A.deeper (envOfC "_law_word" (defScope s_l_word) s.heap.objs.size f cdv))) :
    DSs (cxOf CX0 P w K mg base N_l_word "_law_word" (defScope s_l_word) f cdv A outer s H E).nox pu (defBody s_l_word) (t_l_word a_Desk) := by
  have nd := sc_l_word.nd
  have hu := hu_of hr
  have hu64 := hr.units
  exact (dss_cons (ds_set 1 nd rfl (.inl rfl) (de_bin d2_add de_int (de_call G_l_draw (hr.mono (by decide)) rfl (da_cons (de_var 0) (da_cons (de_if (dt_cmp (d2_eq hu64) (de_call G_l_draw (hr.mono (by decide)) rfl (da_cons (de_var 0) (da_cons de_int da_nil))) de_int rfl) de_int de_int) da_nil)))))
  (dss_one (ds_ret (de_join de_str (de_lc (own := [("_law_turn", 2)]) rfl nd (di_rng rfl T.m_range (de_var 1)) (blkOk_by (by rfl)) (by decide) (fun _ _ _ _ _ => (dg_name 2 nd rfl (.inl rfl))) (fun _ _ _ _ _ => dts_nil) (fun _ _ _ _ _ => (de_ix (di_ix hu) de_str (de_call G_l_draw (hr.mono (by decide)) rfl (da_cons (de_var 0) (da_cons de_int da_nil))) (fun _ _ => rfl))))))))
end DL
/-! ## KD_l_words -/
namespace DL
open PySem PySem.Spec PyProof.Rows L2
theorem d_l_words {P : Program} {w : World} {K : PySem.W.Frag} {mg : Str → Option Value} {base : Heap} {a_Desk : Addr} (T : TX w K mg a_Desk) (G_l_word : FnD P w K mg base 7 "_law_word" (sp_l_word a_Desk)) (G_l_draw : FnD P w K mg base 5 "_law_draw" (sp_l_draw a_Desk)) {f : Addr} (cdv : Value) (A : Around) (outer : List Env) (s : Shared) (H : Hp) (E : XK) (pu : Option Addr) (hr : Room 8 (A.deeper (envOfC "_law_words" (defScope s_l_words) s.heap.objs.size f cdv))) :
    DSs (cxOf CX0 P w K mg base N_l_words "_law_words" (defScope s_l_words) f cdv A outer s H E).nox pu (defBody s_l_words) (t_l_words a_Desk) := by
  have nd := sc_l_words.nd
  have hu := hu_of hr
  have hu64 := hr.units
  exact (dss_cons (ds_par 2 3 rfl nd rfl rfl (by decide) rfl rfl (de_call G_l_word (hr.mono (by decide)) rfl (da_cons (de_var 0) da_nil)) (de_cmp (d2_eq hu64) (de_call G_l_draw (hr.mono (by decide)) rfl (da_cons (de_var 0) (da_cons de_int da_nil))) de_int rfl) (by rfl))
  (dss_cons (ds_unp rfl (dn_cons 4 nd rfl (.inl rfl) (dn_cons 5 nd rfl (.inr rfl) dn_nil)) (da_cons (de_call G_l_draw (hr.mono (by decide)) rfl (da_cons (de_var 0) (da_cons (de_cb dc_len rfl T.m_len (by decide +kernel) (da_cons (de_var 2) da_nil)) da_nil))) (da_cons (de_lstH da_nil) da_nil)))
  (dss_cons (ds_for PassesOwn.never rfl (di_rng rfl T.m_range (de_var 1)) (dg_name 6 nd rfl (.inl rfl))
  (dss_cons (ds_set 7 nd rfl (.inl rfl) (de_bin d2_add (de_bin d2_add (de_slice (de_var 2) do_none (do_some (de_var 4))) (de_ix (di_ix hu) de_str (de_call G_l_draw (hr.mono (by decide)) rfl (da_cons (de_var 0) (da_cons de_int da_nil))) (fun _ _ => rfl))) (de_slice (de_var 2) (do_some (de_bin d2_add (de_var 4) de_int)) do_none)))
  (dss_cons (ds_if (dt_not (dt_of (de_var 3)))
  (dss_one (ds_set 7 nd rfl (.inl rfl) (de_call G_l_word (hr.mono (by decide)) rfl (da_cons (de_var 0) da_nil))))
  dss_nil)
  (dss_cons (ds_if (dt_cmp (d2_in hu64) (de_var 7) (de_var 5) rfl)
  (dss_one (ds_set 7 nd rfl (.inl rfl) (de_ix (di_ix hu) (de_lc (own := [("_law_letter", 8)]) rfl nd (di_it (de_ct (dc_list rfl) rfl T.m_list (by decide +kernel) (da_cons de_str da_nil))) (blkOk_by (by rfl)) (by decide) (fun _ _ _ _ _ => (dg_name 8 nd rfl (.inl rfl))) (fun _ _ _ _ _ => (dts_one (dt_cmp (d2_nin hu64) (de_var 8) (de_var 5) rfl))) (fun _ _ _ _ _ => (de_var 8))) de_int (fun _ _ => rfl))))
  dss_nil)
  (dss_one (ds_expr (de_mut PySem.F.slot_list_append PySem.F.type_list_append dm_append (de_var 5) (da_cons (de_var 7) da_nil))))))))
  (dss_one (ds_ret (de_var 5))))))
end DL
/-! ## KD_l_world -/
namespace DL
open PySem PySem.Spec PyProof.Rows L2
theorem d_l_world {P : Program} {w : World} {K : PySem.W.Frag} {mg : Str → Option Value} {base : Heap} {a_Desk : Addr} (T : TX w K mg a_Desk) (G_l_draw : FnD P w K mg base 5 "_law_draw" (sp_l_draw a_Desk)) (G_l_words : FnD P w K mg base 9 "_law_words" (sp_l_words a_Desk)) (G_l_shuffled : FnD P w K mg base 7 "_law_shuffled" (sp_l_shuffled a_Desk)) (G_l_turns : FnD P w K mg base 9 "_law_turns" (sp_l_turns a_Desk)) {f : Addr} (cdv : Value) (A : Around) (outer : List Env) (s : Shared) (H : Hp) (E : XK) (pu : Option Addr) (hr : Room 10 (A.deeper (envOfC "_law_world" (defScope s_l_world) s.heap.objs.size f cdv))) :
    DSs (cxOf CX0 P w K mg base N_l_world "_law_world" (defScope s_l_world) f cdv A outer s H E).nox pu (defBody s_l_world) (t_l_world a_Desk) := by
  have nd := sc_l_world.nd
  have hu := hu_of hr
  have hu64 := hr.units
  exact (dss_cons (ds_set 4 nd rfl (.inr rfl) (de_call G_l_shuffled (hr.mono (by decide)) rfl (da_cons (de_var 0) (da_cons (de_if (dt_cmp (d2_eq hu64) (de_call G_l_draw (hr.mono (by decide)) rfl (da_cons (de_var 0) (da_cons de_int da_nil))) de_int rfl) (de_call G_l_words (hr.mono (by decide)) rfl (da_cons (de_var 0) (da_cons (de_var 1) da_nil))) (de_slice (de_bin d2_add (de_var 2) (de_call G_l_words (hr.mono (by decide)) rfl (da_cons (de_var 0) (da_cons (de_var 1) da_nil)))) do_none (do_some (de_var 1)))) da_nil))))
  (dss_cons (ds_set 4 nd rfl (.inr rfl) (de_lc (own := [("_law_at", 7)]) rfl nd (di_rng rfl T.m_range (de_var 1)) (blkOk_by (by rfl)) (by decide) (fun _ _ _ _ _ => (dg_name 7 nd rfl (.inl rfl))) (fun _ _ _ _ _ => (dts_one (dt_cmp (d2_eq hu64) (de_index hu64 (de_var 4) (de_ix (di_ix hu) (de_var 4) (de_var 7) (fun _ _ => rfl))) (de_var 7) rfl))) (fun _ _ _ _ _ => (de_ix (di_ix hu) (de_var 4) (de_var 7) (fun _ _ => rfl)))))
  (dss_cons (ds_par 5 6 rfl nd rfl rfl (by decide) rfl rfl de_dctH (de_bin d2_sub (de_cb dc_len rfl T.m_len (by decide +kernel) (da_cons (de_var 4) da_nil)) de_int) (by rfl))
  (dss_cons (ds_for PassesOwn.never rfl (di_rng rfl T.m_range (de_cb dc_len rfl T.m_len (by decide +kernel) (da_cons (de_var 4) da_nil))) (dg_name 7 nd rfl (.inl rfl))
  (dss_cons (ds_set 8 nd rfl (.inl rfl) (de_call G_l_draw (hr.mono (by decide)) rfl (da_cons (de_var 0) (da_cons de_int da_nil))))
  (dss_one (ds_if (dt_bool (dw_or (dt_bool (dw_and (dt_cmp (d2_eq hu64) (de_var 7) (de_var 6) rfl) (dw_one_and (dt_cmp d2_gt (de_var 8) de_int rfl)))) (dw_one_or (dt_bool (dw_and (dt_cmp (d2_eq hu64) (de_var 8) de_int rfl) (dw_one_and (dt_cmp d2_gt (de_var 7) de_int rfl)))))))
  (dss_one (ds_put hu (de_var 5) (de_ix (di_ix hu) (de_var 4) (de_var 7) (fun _ _ => rfl)) (de_tup (da_cons de_str (da_cons de_dct0 da_nil)))))
  (dss_one (ds_put hu (de_var 5) (de_ix (di_ix hu) (de_var 4) (de_var 7) (fun _ _ => rfl)) (de_tup (da_cons (de_if (dt_cmp (d2_eq hu64) (de_bin d2_mod (de_var 8) de_int) de_int rfl) de_str de_str) (da_cons (de_call G_l_turns (hr.mono (by decide)) rfl (da_cons (de_var 0) (da_cons (de_var 4) (da_cons (de_var 2) (da_cons (de_var 7) (da_cons (de_var 3) da_nil)))))) da_nil)))))))))
  (dss_frz 5 (dss_one (ds_ret (de_lst (da_cons (de_var 5) (da_cons (de_ix (di_ix hu) (de_var 4) de_int (fun _ _ => rfl)) da_nil))))))))))
end DL
/-! ## KD_least_of -/
namespace DL
open PySem PySem.Spec PyProof.Rows L2
theorem d_least_of {P : Program} {w : World} {K : PySem.W.Frag} {mg : Str → Option Value} {base : Heap} {a_Desk : Addr} (T : TX w K mg a_Desk) (G_lies_in : FnD P w K mg base 3 "lies_in" (sp_lies_in a_Desk)) {f : Addr} (cdv : Value) (A : Around) (outer : List Env) (s : Shared) (H : Hp) (E : XK) (pu : Option Addr) (hr : Room 4 (A.deeper (envOfC "least_of" (defScope s_least_of) s.heap.objs.size f cdv))) :
    DSs (cxOf CX0 P w K mg base N_least_of "least_of" (defScope s_least_of) f cdv A outer s H E).nox pu (defBody s_least_of) (t_least_of a_Desk) := by
  have nd := sc_least_of.nd
  have hu := hu_of hr
  have hu64 := hr.units
  exact (dss_one (ds_ret (de_lc (own := [("lot", 1)]) rfl nd (di_it (de_var 0)) (blkOk_by (by rfl)) (by decide) (fun _ _ _ _ _ => (dg_name 1 nd rfl (.inr rfl))) (fun _ _ _ _ _ => (dts_one (dt_not (dt_of (de_cb (dc_any rfl) rfl T.m_any (by decide +kernel) (da_cons (de_lc (own := [("other", 2)]) rfl nd (di_it (de_var 0)) (blkOk_by (by rfl)) (by decide) (fun _ _ _ _ _ => (dg_name 2 nd rfl (.inl rfl))) (fun _ _ _ _ _ => dts_nil) (fun _ _ _ _ _ => (de_call G_lies_in (hr.mono (by decide)) rfl (da_cons (de_var 2) (da_cons (de_var 1) da_nil))))) da_nil)))))) (fun _ _ _ _ _ => (de_var 1)))))
end DL
/-! ## KD_lies_in -/
namespace DL
open PySem PySem.Spec PyProof.Rows L2
theorem d_lies_in {P : Program} {w : World} {K : PySem.W.Frag} {mg : Str → Option Value} {base : Heap} {a_Desk : Addr} (T : TX w K mg a_Desk)  {f : Addr} (cdv : Value) (A : Around) (outer : List Env) (s : Shared) (H : Hp) (E : XK) (pu : Option Addr) (hr : Room 2 (A.deeper (envOfC "lies_in" (defScope s_lies_in) s.heap.objs.size f cdv))) :
    DSs (cxOf CX0 P w K mg base N_lies_in "lies_in" (defScope s_lies_in) f cdv A outer s H E).nox pu (defBody s_lies_in) (t_lies_in a_Desk) := by
  have nd := sc_lies_in.nd
  have hu := hu_of hr
  have hu64 := hr.units
  exact (dss_one (ds_ret (de_and (de_cmp (d2_ne hu64) (de_var 0) (de_var 1) rfl) (de_one (de_cb (dc_all rfl) rfl T.m_all (by decide +kernel) (da_cons (de_lc (own := [("thing", 2)]) rfl nd (di_it (de_var 0)) (blkOk_by (by rfl)) (by decide) (fun _ _ _ _ _ => (dg_name 2 nd rfl (.inl rfl))) (fun _ _ _ _ _ => dts_nil) (fun _ _ _ _ _ => (de_cmp (d2_in hu64) (de_var 2) (de_var 1) rfl))) da_nil))))))
end DL
/-! ## KD_lots_of -/
namespace DL
open PySem PySem.Spec PyProof.Rows L2
theorem d_lots_of {P : Program} {w : World} {K : PySem.W.Frag} {mg : Str → Option Value} {base : Heap} {a_Desk : Addr} (T : TX w K mg a_Desk)  {f : Addr} (cdv : Value) (A : Around) (outer : List Env) (s : Shared) (H : Hp) (E : XK) (pu : Option Addr) (hr : Room 2 (A.deeper (envOfC "lots_of" (defScope s_lots_of) s.heap.objs.size f cdv))) :
    DSs (cxOf CX0 P w K mg base N_lots_of "lots_of" (defScope s_lots_of) f cdv A outer s H E).nox pu (defBody s_lots_of) (t_lots_of a_Desk) := by
  have nd := sc_lots_of.nd
  have hu := hu_of hr
  have hu64 := hr.units
  exact (dss_cons (ds_set 1 nd rfl (.inl rfl) (de_lst (da_cons (de_lst da_nil) da_nil)))
  (dss_cons (ds_for PassesOwn.never rfl (di_it (de_var 0)) (dg_name 2 nd rfl (.inr rfl))
  (dss_one (ds_set 1 nd rfl (.inl rfl) (de_bin d2_add (de_var 1) (de_lc (own := [("lot", 3)]) rfl nd (di_it (de_var 1)) (blkOk_by (by rfl)) (by decide) (fun _ _ _ _ _ => (dg_name 3 nd rfl (.inl rfl))) (fun _ _ _ _ _ => dts_nil) (fun _ _ _ _ _ => (de_lst (da_star (de_var 3) (da_cons (de_var 2) da_nil)))))))))
  (dss_one (ds_ret (de_cb (dc_sorted2 rfl hu64) rfl T.m_sorted (by decide +kernel) (da_cons (de_var 1) da_nil))))))
end DL
/-! ## KD_ranked -/
namespace DL
open PySem PySem.Spec PyProof.Rows L2
theorem d_ranked {P : Program} {w : World} {K : PySem.W.Frag} {mg : Str → Option Value} {base : Heap} {a_Desk : Addr} (T : TX w K mg a_Desk)  {f : Addr} (cdv : Value) (A : Around) (outer : List Env) (s : Shared) (H : Hp) (E : XK) (pu : Option Addr) (hr : Room 2 (A.deeper (envOfC "ranked" (defScope s_ranked) s.heap.objs.size f cdv))) :
    DSs (cxOf CX0 P w K mg base N_ranked "ranked" (defScope s_ranked) f cdv A outer s H E).nox pu (defBody s_ranked) (t_ranked a_Desk) := by
  have nd := sc_ranked.nd
  have hu := hu_of hr
  have hu64 := hr.units
  exact (dss_cons (ds_unp rfl (dn_cons 2 nd rfl (.inr rfl) (dn_cons 3 nd rfl (.inl rfl) (dn_cons 4 nd rfl (.inl rfl) dn_nil))) (da_cons (de_dcH (own := [("state", 6)]) rfl nd (di_it (de_var 1)) (blkOk_by (by rfl)) (by decide) (fun _ _ _ _ _ => (dg_name 6 nd rfl (.inl rfl))) (fun _ _ _ _ _ => (dts_one (dt_cmp (d2_eq hu64) (de_ix (di_ix hu) (de_ix (di_ix hu) (de_var 0) (de_var 6) (fun _ _ => rfl)) de_int (fun _ _ => rfl)) de_str rfl))) (fun _ _ _ _ _ => (de_var 6)) (fun _ _ _ _ _ => de_int)) (da_cons de_int (da_cons de_bl da_nil))))
  (dss_cons (ds_while PassesOwn.never (dt_of (de_var 4))
  (dss_cons (ds_aug 3 nd rfl (.inl rfl) ip_add de_int)
  (dss_cons (ds_set 5 nd rfl (.inl rfl) (de_lstH da_nil))
  (dss_cons (ds_for PassesOwn.never rfl (di_it (de_lc (own := [("state", 6)]) rfl nd (di_it (de_var 1)) (blkOk_by (by rfl)) (by decide) (fun _ _ _ _ _ => (dg_name 6 nd rfl (.inl rfl))) (fun _ _ _ _ _ => (dts_one (dt_cmp (d2_nin hu64) (de_var 6) (de_var 2) rfl))) (fun _ _ _ _ _ => (de_var 6)))) (dg_name 6 nd rfl (.inl rfl))
  (dss_cons (ds_par 7 8 rfl nd rfl rfl (by decide) rfl rfl (de_ix (di_ix hu) (de_ix (di_ix hu) (de_var 0) (de_var 6) (fun _ _ => rfl)) de_int (fun _ _ => rfl)) (de_list_values rfl rfl T.m_list (de_ix (di_ix hu) (de_ix (di_ix hu) (de_var 0) (de_var 6) (fun _ _ => rfl)) de_int (fun _ _ => rfl))) (by rfl))
  (dss_one (ds_if (dt_bool (dw_and (dt_of (de_cb (dc_any rfl) rfl T.m_any (by decide +kernel) (da_cons (de_lc (own := [("goal", 9)]) rfl nd (di_it (de_var 8)) (blkOk_by (by rfl)) (by decide) (fun _ _ _ _ _ => (dg_name 9 nd rfl (.inl rfl))) (fun _ _ _ _ _ => dts_nil) (fun _ _ _ _ _ => (de_cmp (d2_in hu64) (de_var 9) (de_var 2) rfl))) da_nil))) (dw_one_and (dt_bool (dw_or (dt_cmp (d2_eq hu64) (de_var 7) de_str rfl) (dw_one_or (dt_of (de_cb (dc_all rfl) rfl T.m_all (by decide +kernel) (da_cons (de_lc (own := [("goal", 9)]) rfl nd (di_it (de_var 8)) (blkOk_by (by rfl)) (by decide) (fun _ _ _ _ _ => (dg_name 9 nd rfl (.inl rfl))) (fun _ _ _ _ _ => dts_nil) (fun _ _ _ _ _ => (de_cmp (d2_in hu64) (de_var 9) (de_var 1) rfl))) da_nil)))))))))
  (dss_one (ds_expr (de_mut PySem.F.slot_list_append PySem.F.type_list_append dm_append (de_var 5) (da_cons (de_var 6) da_nil))))
  dss_nil))))
  (dss_frz 5 (dss_cons (ds_for PassesOwn.never rfl (di_it (de_var 5)) (dg_name 6 nd rfl (.inl rfl))
  (dss_one (ds_put hu (de_var 2) (de_var 6) (de_var 3))))
  (dss_one (ds_set 4 nd rfl (.inl rfl) (de_cmp (d2_ne hu64) (de_var 5) (de_lst da_nil) rfl)))))))))
  (dss_one (ds_ret (de_var 2)))))
end DL
/-! ## KD_ranks_of -/
namespace DL
open PySem PySem.Spec PyProof.Rows L2
theorem d_ranks_of {P : Program} {w : World} {K : PySem.W.Frag} {mg : Str → Option Value} {base : Heap} {a_Desk : Addr} (T : TX w K mg a_Desk) (G_rounds : FnD P w K mg base 5 "rounds" (sp_rounds a_Desk)) {f : Addr} (cdv : Value) (A : Around) (outer : List Env) (s : Shared) (H : Hp) (E : XK) (pu : Option Addr) (hr : Room 6 (A.deeper (envOfC "ranks_of" (defScope s_ranks_of) s.heap.objs.size f cdv))) :
    DSs (cxOf CX0 P w K mg base N_ranks_of "ranks_of" (defScope s_ranks_of) f cdv A outer s H E).nox pu (defBody s_ranks_of) (t_ranks_of a_Desk) := by
  have nd := sc_ranks_of.nd
  have hu := hu_of hr
  have hu64 := hr.units
  exact (dss_cons (ds_set 1 nd rfl (.inr rfl) (de_ix (di_ix hu) (de_call G_rounds (hr.mono (by decide)) rfl (da_cons (de_fld (de_var 0) T.c_Desk T.n_Desk_rows) da_nil)) de_int (fun _ _ => rfl)))
  (dss_one (ds_ret (de_dc (own := [("state", 2)]) rfl nd (di_it (de_cb (dc_sorted2 rfl hu64) rfl T.m_sorted (by decide +kernel) (da_cons (de_var 1) da_nil))) (blkOk_by (by rfl)) (by decide) (fun _ _ _ _ _ => (dg_name 2 nd rfl (.inl rfl))) (fun _ _ _ _ _ => dts_nil) (fun _ _ _ _ _ => (de_var 2)) (fun _ _ _ _ _ => (de_ix (di_ix hu) (de_var 1) (de_var 2) (fun _ _ => rfl)))))))
end DL
/-! ## KD_rescues -/
namespace DL
open PySem PySem.Spec PyProof.Rows L2
theorem d_rescues {P : Program} {w : World} {K : PySem.W.Frag} {mg : Str → Option Value} {base : Heap} {a_Desk : Addr} (T : TX w K mg a_Desk) (G_check_desk : FnD P w K mg base 3 "check_desk" (sp_check_desk a_Desk)) (G_droppable_from : FnD P w K mg base 5 "droppable_from" (sp_droppable_from a_Desk)) (G_without : FnD P w K mg base 11 "without" (sp_without a_Desk)) (G_is_viable : FnD P w K mg base 9 "is_viable" (sp_is_viable a_Desk)) (G_least_of : FnD P w K mg base 5 "least_of" (sp_least_of a_Desk)) {f : Addr} (cdv : Value) (A : Around) (outer : List Env) (s : Shared) (H : Hp) (E : XK) (pu : Option Addr) (hr : Room 12 (A.deeper (envOfC "rescues" (defScope s_rescues) s.heap.objs.size f cdv))) :
    DSs (cxOf CX0 P w K mg base N_rescues "rescues" (defScope s_rescues) f cdv A outer s H E).nox pu (defBody s_rescues) (t_rescues a_Desk) := by
  have nd := sc_rescues.nd
  have hu := hu_of hr
  have hu64 := hr.units
  exact (dss_cons (ds_expr (de_call G_check_desk (hr.mono (by decide)) rfl (da_cons (de_var 0) da_nil)))
  (dss_one (ds_ret (de_call G_least_of (hr.mono (by decide)) rfl (da_cons (de_lc (own := [("lot", 1)]) rfl nd (di_it (de_call G_droppable_from (hr.mono (by decide)) rfl (da_cons (de_var 0) da_nil))) (blkOk_by (by rfl)) (by decide) (fun _ _ _ _ _ => (dg_name 1 nd rfl (.inl rfl))) (fun _ _ _ _ _ => (dts_one (dt_of (de_call G_is_viable (hr.mono (by decide)) rfl (da_cons (de_call G_without (hr.mono (by decide)) rfl (da_cons (de_var 0) (da_cons (de_var 1) da_nil))) da_nil))))) (fun _ _ _ _ _ => (de_var 1))) da_nil)))))
end DL
/-! ## KD_rounds -/
namespace DL
open PySem PySem.Spec PyProof.Rows L2
theorem d_rounds {P : Program} {w : World} {K : PySem.W.Frag} {mg : Str → Option Value} {base : Heap} {a_Desk : Addr} (T : TX w K mg a_Desk) (G_ranked : FnD P w K mg base 3 "ranked" (sp_ranked a_Desk)) {f : Addr} (cdv : Value) (A : Around) (outer : List Env) (s : Shared) (H : Hp) (E : XK) (pu : Option Addr) (hr : Room 4 (A.deeper (envOfC "rounds" (defScope s_rounds) s.heap.objs.size f cdv))) :
    DSs (cxOf CX0 P w K mg base N_rounds "rounds" (defScope s_rounds) f cdv A outer s H E).nox pu (defBody s_rounds) (t_rounds a_Desk) := by
  have nd := sc_rounds.nd
  have hu := hu_of hr
  have hu64 := hr.units
  exact (dss_cons (ds_par3 1 2 3 rfl nd rfl rfl rfl (by decide) (by decide) (by decide) rfl rfl rfl (de_ct (dc_list rfl) rfl T.m_list (by decide +kernel) (da_cons (de_var 0) da_nil)) de_dctH de_int (by rfl))
  (dss_one (ds_while PassesOwn.never (dt_of de_bl)
  (dss_cons (ds_set 4 nd rfl (.inr rfl) (de_call G_ranked (hr.mono (by decide)) rfl (da_cons (de_var 0) (da_cons (de_var 1) da_nil))))
  (dss_cons (ds_if (dt_cmp (d2_eq hu64) (de_cb dc_len rfl T.m_len (by decide +kernel) (da_cons (de_var 4) da_nil)) (de_cb dc_len rfl T.m_len (by decide +kernel) (da_cons (de_var 1) da_nil)) rfl)
  (dss_frz 2 (dss_one (ds_ret (de_tup (da_cons (de_var 4) (da_cons (de_var 2) da_nil))))))
  dss_nil)
  (dss_cons (ds_for PassesOwn.never rfl (di_it (de_lc (own := [("state", 5)]) rfl nd (di_it (de_var 1)) (blkOk_by (by rfl)) (by decide) (fun _ _ _ _ _ => (dg_name 5 nd rfl (.inl rfl))) (fun _ _ _ _ _ => (dts_one (dt_cmp (d2_nin hu64) (de_var 5) (de_var 4) rfl))) (fun _ _ _ _ _ => (de_var 5)))) (dg_name 5 nd rfl (.inl rfl))
  (dss_one (ds_put hu (de_var 2) (de_var 5) (de_var 3))))
  (dss_one (ds_par 1 3 rfl nd rfl rfl (by decide) rfl rfl (de_lc (own := [("state", 5)]) rfl nd (di_it (de_var 1)) (blkOk_by (by rfl)) (by decide) (fun _ _ _ _ _ => (dg_name 5 nd rfl (.inl rfl))) (fun _ _ _ _ _ => (dts_one (dt_cmp (d2_in hu64) (de_var 5) (de_var 4) rfl))) (fun _ _ _ _ _ => (de_var 5))) (de_bin d2_add (de_var 3) de_int) (by rfl)))))))))
end DL
/-! ## KD_without -/
namespace DL
open PySem PySem.Spec PyProof.Rows L2
theorem d_without {P : Program} {w : World} {K : PySem.W.Frag} {mg : Str → Option Value} {base : Heap} {a_Desk : Addr} (T : TX w K mg a_Desk) (G_Desk___init__ : InD P w K mg base 9 "Desk" a_Desk (spI_Desk a_Desk)) {f : Addr} (cdv : Value) (A : Around) (outer : List Env) (s : Shared) (H : Hp) (E : XK) (pu : Option Addr) (hr : Room 10 (A.deeper (envOfC "without" (defScope s_without) s.heap.objs.size f cdv))) :
    DSs (cxOf CX0 P w K mg base N_without "without" (defScope s_without) f cdv A outer s H E).nox pu (defBody s_without) (t_without a_Desk) := by
  have nd := sc_without.nd
  have hu := hu_of hr
  have hu64 := hr.units
  exact (dss_cons (ds_set 2 nd rfl (.inl rfl) de_dctH)
  (dss_cons (ds_for PassesOwn.never rfl (di_items (de_fld (de_var 0) T.c_Desk T.n_Desk_rows)) (dg_tup rfl (dgs_cons (dg_name 3 nd rfl (.inr rfl)) (dgs_cons (dg_tup rfl (dgs_cons (dg_name 4 nd rfl (.inl rfl)) (dgs_cons (dg_name 5 nd rfl (.inl rfl)) dgs_nil))) dgs_nil)))
  (dss_one (ds_put hu (de_var 2) (de_var 3) (de_tup (da_cons (de_var 4) (da_cons (de_dc (own := [("word", 6), ("goal", 7)]) rfl nd (di_items (de_var 5)) (blkOk_by (by rfl)) (by decide) (fun _ _ _ _ _ => (dg_tup rfl (dgs_cons (dg_name 6 nd rfl (.inl rfl)) (dgs_cons (dg_name 7 nd rfl (.inl rfl)) dgs_nil)))) (fun _ _ _ _ _ => (dts_one (dt_cmp (d2_nin hu64) (de_tup (da_cons (de_var 3) (da_cons (de_var 6) da_nil))) (de_var 1) rfl))) (fun _ _ _ _ _ => (de_var 6)) (fun _ _ _ _ _ => (de_var 7))) da_nil))))))
  (dss_frz 2 (dss_one (ds_ret (de_make G_Desk___init__ (hr.mono (by decide)) rfl (da_cons (de_var 2) (da_cons (de_fld (de_var 0) T.c_Desk T.n_Desk_first) da_nil))))))))
end DL
/-! ## KD_words_at -/
namespace DL
open PySem PySem.Spec PyProof.Rows L2
theorem d_words_at {P : Program} {w : World} {K : PySem.W.Frag} {mg : Str → Option Value} {base : Heap} {a_Desk : Addr} (T : TX w K mg a_Desk)  {f : Addr} (cdv : Value) (A : Around) (outer : List Env) (s : Shared) (H : Hp) (E : XK) (pu : Option Addr) (hr : Room 2 (A.deeper (envOfC "words_at" (defScope s_words_at) s.heap.objs.size f cdv))) :
    DSs (cxOf CX0 P w K mg base N_words_at "words_at" (defScope s_words_at) f cdv A outer s H E).nox pu (defBody s_words_at) (t_words_at a_Desk) := by
  have nd := sc_words_at.nd
  have hu := hu_of hr
  have hu64 := hr.units
  exact (dss_one (ds_ret (de_lc2 (own := [("state", 2), ("row", 3), ("word", 4)]) (vs1 := [4]) rfl nd (di_items (de_fld (de_var 0) T.c_Desk T.n_Desk_rows)) (blkOk_by (by rfl)) (by decide) (by decide) (by decide) (fun _ _ _ _ _ => (dg_tup rfl (dgs_cons (dg_name 2 nd rfl (.inl rfl)) (dgs_cons (dg_name 3 nd rfl (.inl rfl)) dgs_nil)))) (fun _ _ _ _ _ => (dts_one (dt_cmp (d2_eq hu64) (de_ix (di_ix hu) (de_var 3) de_int (fun _ _ => rfl)) (de_var 1) rfl))) (fun _ _ _ _ _ => (di_it (de_ix (di_ix hu) (de_var 3) de_int (fun _ _ => rfl)))) (fun _ _ _ _ _ => (dg_name 4 nd rfl (.inl rfl))) (fun _ _ _ _ _ => dts_nil) (fun _ _ _ _ _ => (de_tup (da_cons (de_var 2) (da_cons (de_var 4) da_nil)))))))
end DL
/-! ## KS0 -/
namespace DL
open PySem PySem.Spec PyProof.Rows L2
/-! ### loops by what they keep -/
theorem runF_ind {body : D → RS} {N : EndsD} (Inv : List D → Rho → Mu → Prop) (step : ∀ d ds ρ μ (k : Rho → Mu → Prop), (∀ ρ' μ', Inv ds ρ' μ' → k ρ' μ') → Inv (d :: ds) ρ μ → body d { nx := k, ct := k, bk := N.nx, rt := N.rt } ρ μ)
    (done : ∀ ρ μ, Inv [] ρ μ → N.nx ρ μ) : ∀ ds ρ μ, Inv ds ρ μ → runF body ds N ρ μ
  | [], ρ, μ, h => done ρ μ h
  | d :: ds, ρ, μ, h => step d ds ρ μ _ (fun ρ' μ' h' => runF_ind Inv step done ds ρ' μ' h') h
theorem runC_ind {α : Type} {body : D → (Option α → Mu → Prop) → Mu → Prop} {k : List α → Mu → Prop} (Inv : List D → List α → Mu → Prop) (step : ∀ d ds acc μ (K : Option α → Mu → Prop), (∀ r μ', Inv ds (acc ++ r.toList) μ' → K r μ') → Inv (d :: ds) acc μ → body d K μ)
    (done : ∀ acc μ, Inv [] acc μ → k acc μ) : ∀ ds acc μ, Inv ds acc μ → runC body ds acc μ k
  | [], acc, μ, h => done acc μ h
  | d :: ds, acc, μ, h => step d ds acc μ _ (fun r μ' h' => runC_ind Inv step done ds _ μ' h') h
theorem runC_pure {α : Type} {body : D → (Option α → Mu → Prop) → Mu → Prop} {k : List α → Mu → Prop} (f : D → Option α) {μ : Mu} : ∀ (ds : List D) (acc : List α), (∀ d ∈ ds, ∀ K : Option α → Mu → Prop, K (f d) μ → body d K μ) → k (acc ++ ds.filterMap f) μ → runC body ds acc μ k
  | [], acc, _, h => by simpa [runC] using h
  | d :: ds, acc, hb, h => hb d (by simp) _ (runC_pure f ds _ (fun d' h' => hb d' (by simp [h'])) (by
      cases e : f d with
      | none => simpa [e] using h
      | some a => simpa [e] using h))
theorem runA_ind {α : Type} {body : D → List α → Mu → (List α → Mu → Prop) → Prop} {k : List α → Mu → Prop} (Inv : List D → List α → Mu → Prop) (step : ∀ d ds acc μ (K : List α → Mu → Prop), (∀ acc' μ', Inv ds acc' μ' → K acc' μ') → Inv (d :: ds) acc μ → body d acc μ K)
    (done : ∀ acc μ, Inv [] acc μ → k acc μ) : ∀ ds acc μ, Inv ds acc μ → runA body ds acc μ k
  | [], acc, μ, h => done acc μ h
  | d :: ds, acc, μ, h => step d ds acc μ _ (fun a μ' h' => runA_ind Inv step done ds a μ' h') h
end DL
/-! ## KS1 -/
namespace DL
open PySem PySem.Spec PyProof.Rows L2
local macro_rules | `(tactic| walk_at "d") => `(tactic| simp only [rSeq, rSet, rRet, rIfS, rFor, rDrop, rNext, rDead, rBrk, rCont, rPur, rPurSet, rVar, rC, rBin, rCh, rAndV, rOrV, rNotV, rAnd, rOr, rNot, rIf, rT, rCB, rCons, rNil, rCall, rIsi, rIsi2, rIsiC, rSl, rNo, rPt, rNeg, rRev, rTup, rLst, rLstH, rDctH, rDct0, rDisp, rDispH, rP0, rP1, rPar, rPar3, rUnp, rAsg, rAug, iIt, iRng, iRng2, iItems, iVals, iZip, gNm, rMut, rPut, rFrz, rLC, rSetLc, rDc, rDcH, rDC, rYes, rStar, rMeth0, rMake, rFldSet, rEqO, rTur, rJoin, rBits, rIndexD, rList_values, rList_items, rFld, rLC2, rIn, wipeR, br_t, br_f, rho0, ends, endsI, q_sel, q_isB, q_isPur, q_isI, q_strD, q_lstD, q_dkD, q_dkS, q_argS0, q_argSc, q_argSp, q_coldS, q_onS, q_noTy_non, q_noTy_bl, q_noTy_int, q_noTy_str, q_noTy_lst, q_noTy_tup, q_noTy_dk, q_noTy_obj, q_addI, q_addS, q_addL, q_addT, q_intD, q_ltI, q_ltS, q_g1, q_g2, q_lenL, q_lenT, q_lenK, q_lenS, q_intOf, q_listL, q_listT, q_listK, q_listS, q_iterL, q_iterT, q_iterK, q_iterS, q_ixL, q_ixT, q_ixS, q_ixK, q_slS, q_slL, q_inL, q_inK, q_inS, q_inV, q_ninV, q_eqD, q_neD, q_rdC, q_rdH, q_hotL, q_hotK, q_setM0, q_setM1, q_nth0, q_nthS, q_colds0, q_colds1, q_keyI, q_keyS, q_app, q_ins, q_gTp, q_gLs, q_gCs, q_gNl, q_frz0, q_frz1, q_thN, q_thC, q_thP, q_thH, q_putS, q_objS, q_fld, q_objP, q_zipL, q_zipT, q_all, q_any, q_kit_NoneType_bool, q_kit_NoneType_int, q_kit_NoneType_str, q_kit_NoneType_list, q_kit_NoneType_tuple, q_kit_NoneType_dict, q_kit_bool_bool, q_kit_bool_int, q_kit_bool_str, q_kit_bool_list, q_kit_bool_tuple, q_kit_bool_dict, q_kit_int_bool, q_kit_int_int, q_kit_int_str, q_kit_int_list, q_kit_int_tuple, q_kit_int_dict, q_kit_str_bool, q_kit_str_int, q_kit_str_str, q_kit_str_list, q_kit_str_tuple, q_kit_str_dict, q_kit_list_bool, q_kit_list_int, q_kit_list_str, q_kit_list_list, q_kit_list_tuple, q_kit_list_dict, q_kit_tuple_bool, q_kit_tuple_int, q_kit_tuple_str, q_kit_tuple_list, q_kit_tuple_tuple, q_kit_tuple_dict, q_kit_dict_bool, q_kit_dict_int, q_kit_dict_str, q_kit_dict_list, q_kit_dict_tuple, q_kit_dict_dict, List.map_cons, List.map_nil, List.length_cons, List.length_nil, List.append_nil, List.cons_append, List.nil_append, List.set_cons_zero, List.set_cons_succ, List.replicate_succ, List.replicate_zero, Nat.reduceSub, Nat.reduceAdd, tyN, List.getD_cons_zero, List.getD_cons_succ, if_true, if_false, true_and, and_true, Nat.zero_add, List.set_nil, Bool.not_true, Bool.not_false])
theorem s_mixed (a : Addr) : ∀ ss n kk, sp_l_mixed a ss n kk → t_l_mixed a (ends kk) (rho0 N_l_mixed ss) ⟨[], n⟩ := by
  rintro ss n kk ⟨s, t, at_, rfl, h1, h2, h3, h4, h5, h6, q⟩
  unfold t_l_mixed
  walk_at "d"
  have hb : (BIG : Int) = 1000000000000000000 := rfl
  refine ⟨.inr (by decide), .inl (by decide), .inr (by omega), .inl (by decide), by decide, .inl (by omega), by decide, .inr (by decide), by decide, ?_⟩
  exact q _ (Int.emod_nonneg _ (by decide)) (Int.emod_lt_of_pos _ (by decide))
theorem br_i {b : Bool} {P Q : Prop} (h1 : b = true → P) (h2 : b = false → Q) : br b P Q := ⟨h1, h2⟩
theorem rho2 {ρ : Rho} {a : Option S} {b : Option S} (h : ρ = [a, b]) (x : Option S) : ρ.set 1 x = [a, x] := by subst h; rfl
theorem s_spelt (a : Addr) : ∀ ss n kk, sp_is_spelt a ss n kk → t_is_spelt a (ends kk) (rho0 N_is_spelt ss) ⟨[], n⟩ := by
  rintro ss n kk ⟨z, rfl, hl, q⟩
  unfold t_is_spelt
  walk_at "d"
  unfold isSpelt at q
  refine ⟨hl, br_i (fun e1 => br_i (fun e2 => ?_) fun e2 => ?_) fun e1 => ?_⟩
  · have e : decide (0 < z.length ∧ z.length < 9) = false := by simp at e1 e2 ⊢; omega
    rwa [e, Bool.false_and] at q
  · have e : decide (0 < z.length ∧ z.length < 9) = true := by simp at e1 e2 ⊢; omega
    rw [e, Bool.true_and] at q
    refine runF_ind (fun ds ρ μ => ∃ (cs : List Nat) (x : Option S), ds = cs.map (fun c => D.str ⟨#[c]⟩) ∧ ρ = [some (.c (.str z)), x] ∧ μ = ⟨[], n⟩ ∧ kk (.bl (cs.all fun c => decide (c ∈ letters.cps.toList))) n) ?_ ?_ _ _ _ ⟨z.cps.toList, none, rfl, rfl, rfl, q⟩
    · rintro d ds ρ μ k hk ⟨cs, x, hd, rfl, rfl, hq⟩
      cases cs with
      | nil => cases hd
      | cons c cs =>
        simp only [List.map_cons, List.cons.injEq] at hd
        obtain ⟨rfl, rfl⟩ := hd
        walk_at "d"
        refine ⟨c, rfl, ?_⟩
        rw [List.all_cons] at hq
        cases hc : decide (c ∈ letters.cps.toList) with
        | false => rw [hc, Bool.false_and] at hq; exact br_i (fun _ => hq) fun z => by cases z
        | true => rw [hc, Bool.true_and] at hq; exact br_i (fun z => by cases z) fun _ => hk _ _ ⟨cs, _, rfl, rfl, rfl, hq⟩
    · rintro ρ μ ⟨cs, x, hd, rfl, rfl, hq⟩
      cases cs with
      | cons c cs => cases hd
      | nil => walk_at "d"; exact hq
  · have e : decide (0 < z.length ∧ z.length < 9) = false := by simp at e1 ⊢; omega
    rwa [e, Bool.false_and] at q
theorem bits100 {m : Int} (h0 : 0 < m) (h : m < 100) : Builtin.Int.intBits m ≤ 7 := intBits_le_iff.mpr (by omega)
theorem s_draw (a : Addr) : ∀ ss n kk, sp_l_draw a ss n kk → t_l_draw a (ends kk) (rho0 N_l_draw ss) ⟨[], n⟩ := by
  rintro ss n kk ⟨m, rfl, h1, h2, h3, q⟩
  unfold t_l_draw
  walk_at "d"
  intro v hv
  refine br_i (fun _ => ?_) fun _ => ?_
  · intro v hv
    refine ⟨h1, fun w hw => ⟨⟨h1, by omega⟩, ⟨Int.ediv_nonneg hw.1 (by omega), ?_⟩, ?_⟩⟩
    · exact Int.lt_of_le_of_lt (Int.ediv_le_self _ hw.1) hw.2
    · exact q _ _ (Int.emod_nonneg _ (by omega)) (Int.emod_lt_of_pos _ h1) (Nat.le_add_right _ _) (by simp)
  · have hb := bits100 h1 h2
    have e1 : 1 + (Builtin.Int.intBits m : Int) / 28 = 1 := by omega
    rw [e1]
    refine ⟨⟨by decide, by decide⟩, by decide, by decide, ?_⟩
    show runF _ [D.int (0 + ((0 : Nat) : Int))] _ _ _
    unfold runF
    walk_at "d"
    intro v hv
    have hn : (BIG : Nat) = 1000000000000000000 := rfl
    refine ⟨⟨by have := hv.1; omega, by have := hv.2; omega⟩, .inl (by decide), fun s hs t ht b hb => ?_⟩
    refine ⟨s, t, b, rfl, hs.1, hs.2, ht.1, by have := ht.2; omega, hb.1, hb.2, fun r h0 h1' => ?_⟩
    unfold runF
    walk_at "d"
    exact ⟨h1, q _ _ (Int.emod_nonneg _ (by omega)) (Int.emod_lt_of_pos _ h1) (by omega) (by omega)⟩
theorem atI_ok {α : Type} {xs : List α} {i : Int} (h0 : 0 ≤ i) (h1 : i < xs.length) : ∃ x, L2.atI xs i = some x ∧ x ∈ xs := by
  have hl : i.toNat < xs.length := by omega
  refine ⟨xs[i.toNat], ?_, List.getElem_mem hl⟩
  unfold L2.atI L2.ixN
  rw [if_pos h0, if_pos h1]
  simp [hl]
theorem draw_i {a : Addr} {m : Int} {n : Nat} {k : D → Nat → Prop} (h0 : 0 < m) (h1 : m < 100) (hn : n + 2 ≤ BIG) (h : ∀ r n', 0 ≤ r → r < m → n ≤ n' → n' ≤ n + 2 → k (.int r) n') : sp_l_draw a [.pur, .c (.int m)] n k := ⟨m, rfl, h0, h1, hn, h⟩
end DL
/-! ## KS2 -/
namespace DL
open PySem PySem.Spec PyProof.Rows L2
local macro_rules | `(tactic| walk_at "d") => `(tactic| simp only [rSeq, rSet, rRet, rIfS, rFor, rDrop, rNext, rDead, rBrk, rCont, rPur, rPurSet, rVar, rC, rBin, rCh, rAndV, rOrV, rNotV, rAnd, rOr, rNot, rIf, rT, rCB, rCons, rNil, rCall, rIsi, rIsi2, rIsiC, rSl, rNo, rPt, rNeg, rRev, rTup, rLst, rLstH, rDctH, rDct0, rDisp, rDispH, rP0, rP1, rPar, rPar3, rUnp, rAsg, rAug, iIt, iRng, iRng2, iItems, iVals, iZip, gNm, rMut, rPut, rFrz, rLC, rSetLc, rDc, rDcH, rDC, rYes, rStar, rMeth0, rMake, rFldSet, rEqO, rTur, rJoin, rBits, rIndexD, rList_values, rList_items, rFld, rLC2, rIn, wipeR, br_t, br_f, rho0, ends, endsI, q_sel, q_isB, q_isPur, q_isI, q_strD, q_lstD, q_dkD, q_dkS, q_argS0, q_argSc, q_argSp, q_coldS, q_onS, q_noTy_non, q_noTy_bl, q_noTy_int, q_noTy_str, q_noTy_lst, q_noTy_tup, q_noTy_dk, q_noTy_obj, q_addI, q_addS, q_addL, q_addT, q_intD, q_ltI, q_ltS, q_g1, q_g2, q_lenL, q_lenT, q_lenK, q_lenS, q_intOf, q_listL, q_listT, q_listK, q_listS, q_iterL, q_iterT, q_iterK, q_iterS, q_ixL, q_ixT, q_ixS, q_ixK, q_slS, q_slL, q_inL, q_inK, q_inS, q_inV, q_ninV, q_eqD, q_neD, q_rdC, q_rdH, q_hotL, q_hotK, q_setM0, q_setM1, q_nth0, q_nthS, q_colds0, q_colds1, q_keyI, q_keyS, q_app, q_ins, q_gTp, q_gLs, q_gCs, q_gNl, q_frz0, q_frz1, q_thN, q_thC, q_thP, q_thH, q_putS, q_objS, q_fld, q_objP, q_zipL, q_zipT, q_all, q_any, q_kit_NoneType_bool, q_kit_NoneType_int, q_kit_NoneType_str, q_kit_NoneType_list, q_kit_NoneType_tuple, q_kit_NoneType_dict, q_kit_bool_bool, q_kit_bool_int, q_kit_bool_str, q_kit_bool_list, q_kit_bool_tuple, q_kit_bool_dict, q_kit_int_bool, q_kit_int_int, q_kit_int_str, q_kit_int_list, q_kit_int_tuple, q_kit_int_dict, q_kit_str_bool, q_kit_str_int, q_kit_str_str, q_kit_str_list, q_kit_str_tuple, q_kit_str_dict, q_kit_list_bool, q_kit_list_int, q_kit_list_str, q_kit_list_list, q_kit_list_tuple, q_kit_list_dict, q_kit_tuple_bool, q_kit_tuple_int, q_kit_tuple_str, q_kit_tuple_list, q_kit_tuple_tuple, q_kit_tuple_dict, q_kit_dict_bool, q_kit_dict_int, q_kit_dict_str, q_kit_dict_list, q_kit_dict_tuple, q_kit_dict_dict, List.map_cons, List.map_nil, List.length_cons, List.length_nil, List.append_nil, List.cons_append, List.nil_append, List.set_cons_zero, List.set_cons_succ, List.replicate_succ, List.replicate_zero, Nat.reduceSub, Nat.reduceAdd, tyN, List.getD_cons_zero, List.getD_cons_succ, if_true, if_false, true_and, and_true, Nat.zero_add, List.set_nil, Bool.not_true, Bool.not_false])
theorem noTy_i {d : D} {k : D → Prop} (h : ∀ t, d ≠ .ty t) (hk : k d) : noTy d k := by
  cases d with
  | ty t => exact absurd rfl (h t)
  | _ => exact hk
theorem s_one_of (a : Addr) : ∀ ss n kk, sp_l_one_of a ss n kk → t_l_one_of a (ends kk) (rho0 N_l_one_of ss) ⟨[], n⟩ := by
  rintro ss n kk ⟨ds, rfl, h1, ht, h2, h3, q⟩
  unfold t_l_one_of
  walk_at "d"
  have hl : 0 < ds.length := List.length_pos_iff.mpr h1
  refine draw_i (by omega) (by omega) h3 fun r n' r0 r1 m0 m1 => ?_
  obtain ⟨x, ex, hx⟩ := atI_ok r0 r1
  walk_at "d"
  rw [ex]
  walk_at "d"
  exact noTy_i (fun t e => ht t (e ▸ hx)) (q x n' hx m0 m1)
theorem str_app (a b : Str) : a ++ b = ⟨a.cps ++ b.cps⟩ := rfl
theorem join_signs : ∀ cs : List Nat, Str.join ⟨#[]⟩ (cs.map fun c => (⟨#[c]⟩ : Str)) = ⟨cs.toArray⟩
  | [] => rfl
  | [c] => rfl
  | c :: d :: cs => by
    show (⟨#[c]⟩ : Str) ++ ⟨#[]⟩ ++ Str.join ⟨#[]⟩ ((d :: cs).map fun c => (⟨#[c]⟩ : Str)) = _
    rw [join_signs (d :: cs), str_app, str_app]
    simp
theorem empty_str : Str.ofString "" = ⟨#[]⟩ := by decide +kernel
theorem letters_len : letters.cps.toList.length = 26 := by decide +kernel
theorem spelt_of {cs : List Nat} (h0 : 0 < cs.length) (h1 : cs.length < 9) (h : ∀ c ∈ cs, c ∈ letters.cps.toList) : isSpelt ⟨cs.toArray⟩ = true := by
  unfold isSpelt
  have : (⟨cs.toArray⟩ : Str).length = cs.length := by simp [Str.length]
  simp only [this, Bool.and_eq_true, decide_eq_true_eq, List.all_eq_true]
  exact ⟨⟨h0, h1⟩, fun c hc => h c (by simpa using hc)⟩
/-- the loop that makes a word -/
theorem word_loop (a : Addr) {m : Nat} {n : Nat} {kk : D → Nat → Prop} (hm0 : 0 < m) (hm : m < 9) (hn : n + 20 ≤ BIG) (q : ∀ z n', isSpelt z = true → n ≤ n' → n' ≤ n + 20 → kk (.str z) n') :
    (List.map (fun i : Nat => D.int (0 + (i : Int))) (List.range m)).length ≤ lim ∧ runC (fun d K μ => sp_l_draw a [S.pur, S.c (D.int 26)] μ.n fun d n' => ixD (D.str letters) d fun x => K (some x) ⟨μ.hot, n'⟩) (List.map (fun i : Nat => D.int (0 + (i : Int))) (List.range m)) [] ⟨[], n⟩ fun acc μ' =>
      ∃ ys, acc = List.map D.str ys ∧ (List.map (fun x : Str => x.length) ys).sum + ys.length * (Str.ofString "").length ≤ lim ∧ kk (D.str (Txt.join (Str.ofString "") ys)) μ'.n := by
  refine ⟨by simp [lim]; omega, ?_⟩
  refine runC_ind (fun ds acc μ => ∃ cs : List Nat, acc = cs.map (fun c => D.str ⟨#[c]⟩) ∧ (∀ c ∈ cs, c ∈ letters.cps.toList) ∧ ds.length + cs.length = m ∧ μ.hot = [] ∧ n ≤ μ.n ∧ μ.n ≤ n + 2 * cs.length) ?_ ?_ _ _ _ ⟨[], rfl, by simp, by simp, rfl, Nat.le_refl _, Nat.le_refl _⟩
  · rintro d ds acc ⟨h, μn⟩ K hK ⟨cs, rfl, hc, hl, hh, h1, h2⟩
    simp only at hh h1 h2
    subst hh
    simp only [List.length_cons] at hl
    refine draw_i (by decide) (by decide) (show μn + 2 ≤ BIG by omega) fun r n' r0 r1 m0 m1 => ?_
    have m0 : μn ≤ n' := m0
    have m1 : n' ≤ μn + 2 := m1
    obtain ⟨x, ex, hx⟩ := atI_ok (xs := letters.cps.toList) r0 (by rw [letters_len]; exact r1)
    have hlen : letters.length ≤ lim := by decide +kernel
    walk_at "d"
    refine ⟨hlen, ?_⟩
    rw [ex]
    walk_at "d"
    refine hK _ _ ⟨cs ++ [x], by simp, ?_, by simp; omega, rfl, by show n ≤ n'; omega, by show n' ≤ _; simp; omega⟩
    intro c hc'
    rcases List.mem_append.mp hc' with hc' | hc'
    · exact hc c hc'
    · rw [List.mem_singleton.mp hc']; exact hx
  · rintro acc ⟨h, μn⟩ ⟨cs, rfl, hc, hl, hh, h1, h2⟩
    simp only [List.length_nil, Nat.zero_add] at hl h1 h2
    refine ⟨cs.map fun c => ⟨#[c]⟩, by rw [List.map_map]; rfl, ?_, ?_⟩
    · rw [empty_str, List.map_map]
      have : ((fun x : Str => x.length) ∘ fun c : Nat => (⟨#[c]⟩ : Str)) = fun _ => 1 := rfl
      have e1 : ∀ l : List Nat, (l.map fun _ => 1).sum = l.length := fun l => by induction l with
        | nil => rfl
        | cons _ _ ih => simp [ih]; omega
      rw [this, e1]
      simp [Str.length, lim]
      omega
    · rw [TL.join_eq, empty_str, join_signs]
      exact q _ _ (spelt_of (by omega) (by omega) hc) h1 (by show μn ≤ n + 20; omega)
theorem s_word (a : Addr) : ∀ ss n kk, sp_l_word a ss n kk → t_l_word a (ends kk) (rho0 N_l_word ss) ⟨[], n⟩ := by
  rintro ss n kk ⟨rfl, h3, q⟩
  unfold t_l_word
  walk_at "d"
  refine draw_i (by decide) (by decide) (by omega) fun r n' r0 r1 m0 m1 => ⟨by rfl, br_i (fun _ => ?_) fun _ => ?_⟩
  · refine draw_i (by decide) (by decide) (by omega) fun r n' r0 r1 m0 m1 => ?_
    walk_at "d"
    refine ⟨by omega, by omega, ?_⟩
    exact word_loop a (m := (1 + r).toNat) (by omega) (by omega) (by omega) fun z n'' hz h4 h5 => q z n'' hz (by omega) (by omega)
  · refine draw_i (by decide) (by decide) (by omega) fun r n' r0 r1 m0 m1 => ?_
    walk_at "d"
    refine ⟨by omega, by omega, ?_⟩
    exact word_loop a (m := (1 + r).toNat) (by omega) (by omega) (by omega) fun z n'' hz h4 h5 => q z n'' hz (by omega) (by omega)
theorem s_shuffled (a : Addr) : ∀ ss n kk, sp_l_shuffled a ss n kk → t_l_shuffled a (ends kk) (rho0 N_l_shuffled ss) ⟨[], n⟩ := by
  rintro ss n kk ⟨ds, rfl, h1, h3, q⟩
  unfold t_l_shuffled
  walk_at "d"
  refine ⟨by decide, ?_⟩
  refine runF_ind (fun es ρ μ => ∃ (xs : List D) (x : Option S) (m : Nat), ρ = [some .pur, some (.c (.lst ds)), some (.hot 0), x] ∧ μ = ⟨[.lst xs], m⟩ ∧ (xs ++ es).Perm ds ∧ n ≤ m ∧ m ≤ n + 2 * xs.length) ?_ ?_ _ _ _ ⟨[], none, n, rfl, rfl, by simp, Nat.le_refl _, Nat.le_refl _⟩
  · rintro d es ρ μ k hk ⟨xs, x, m, rfl, rfl, hp, h4, h5⟩
    have hl := hp.length_eq
    simp at hl
    walk_at "d"
    refine draw_i (by omega) (by omega) (by omega) fun r n' r0 r1 m0 m1 => ?_
    walk_at "d"
    refine ⟨by simp [lim]; omega, r0, by omega, ?_⟩
    refine hk _ _ ⟨_, _, n', rfl, rfl, ?_, by omega, by simp; omega⟩
    refine List.Perm.trans ?_ hp
    have e : xs = xs.take r.toNat ++ xs.drop r.toNat := (List.take_append_drop _ _).symm
    have p1 : (xs.take r.toNat ++ [d] ++ xs.drop r.toNat).Perm (xs ++ [d]) := by
      conv => rhs; rw [e]
      rw [List.append_assoc, List.append_assoc]
      exact List.Perm.append_left _ List.perm_append_comm
    have p2 := p1.append_right es
    simpa using p2
  · rintro ρ μ ⟨xs, x, m, rfl, rfl, hp, h4, h5⟩
    have hl := hp.length_eq
    simp at hl hp
    walk_at "d"
    exact q _ _ hp h4 (by omega)
end DL
/-! ## KS3 -/
namespace DL
open PySem PySem.Spec PyProof.Rows L2
local macro_rules | `(tactic| walk_at "d") => `(tactic| simp only [rSeq, rSet, rRet, rIfS, rFor, rDrop, rNext, rDead, rBrk, rCont, rPur, rPurSet, rVar, rC, rBin, rCh, rAndV, rOrV, rNotV, rAnd, rOr, rNot, rIf, rT, rCB, rCons, rNil, rCall, rIsi, rIsi2, rIsiC, rSl, rNo, rPt, rNeg, rRev, rTup, rLst, rLstH, rDctH, rDct0, rDisp, rDispH, rP0, rP1, rPar, rPar3, rUnp, rAsg, rAug, iIt, iRng, iRng2, iItems, iVals, iZip, gNm, rMut, rPut, rFrz, rLC, rSetLc, rDc, rDcH, rDC, rYes, rStar, rMeth0, rMake, rFldSet, rEqO, rTur, rJoin, rBits, rIndexD, rList_values, rList_items, rFld, rLC2, rIn, wipeR, br_t, br_f, rho0, ends, endsI, q_sel, q_isB, q_isPur, q_isI, q_strD, q_lstD, q_dkD, q_dkS, q_argS0, q_argSc, q_argSp, q_coldS, q_onS, q_noTy_non, q_noTy_bl, q_noTy_int, q_noTy_str, q_noTy_lst, q_noTy_tup, q_noTy_dk, q_noTy_obj, q_addI, q_addS, q_addL, q_addT, q_intD, q_ltI, q_ltS, q_g1, q_g2, q_lenL, q_lenT, q_lenK, q_lenS, q_intOf, q_listL, q_listT, q_listK, q_listS, q_iterL, q_iterT, q_iterK, q_iterS, q_ixL, q_ixT, q_ixS, q_ixK, q_slS, q_slL, q_inL, q_inK, q_inS, q_inV, q_ninV, q_eqD, q_neD, q_rdC, q_rdH, q_hotL, q_hotK, q_setM0, q_setM1, q_nth0, q_nthS, q_colds0, q_colds1, q_keyI, q_keyS, q_app, q_ins, q_gTp, q_gLs, q_gCs, q_gNl, q_frz0, q_frz1, q_thN, q_thC, q_thP, q_thH, q_putS, q_objS, q_fld, q_objP, q_zipL, q_zipT, q_all, q_any, q_kit_NoneType_bool, q_kit_NoneType_int, q_kit_NoneType_str, q_kit_NoneType_list, q_kit_NoneType_tuple, q_kit_NoneType_dict, q_kit_bool_bool, q_kit_bool_int, q_kit_bool_str, q_kit_bool_list, q_kit_bool_tuple, q_kit_bool_dict, q_kit_int_bool, q_kit_int_int, q_kit_int_str, q_kit_int_list, q_kit_int_tuple, q_kit_int_dict, q_kit_str_bool, q_kit_str_int, q_kit_str_str, q_kit_str_list, q_kit_str_tuple, q_kit_str_dict, q_kit_list_bool, q_kit_list_int, q_kit_list_str, q_kit_list_list, q_kit_list_tuple, q_kit_list_dict, q_kit_tuple_bool, q_kit_tuple_int, q_kit_tuple_str, q_kit_tuple_list, q_kit_tuple_tuple, q_kit_tuple_dict, q_kit_dict_bool, q_kit_dict_int, q_kit_dict_str, q_kit_dict_list, q_kit_dict_tuple, q_kit_dict_dict, List.map_cons, List.map_nil, List.length_cons, List.length_nil, List.append_nil, List.cons_append, List.nil_append, List.set_cons_zero, List.set_cons_succ, List.replicate_succ, List.replicate_zero, Nat.reduceSub, Nat.reduceAdd, tyN, List.getD_cons_zero, List.getD_cons_succ, if_true, if_false, true_and, and_true, Nat.zero_add, List.set_nil, Bool.not_true, Bool.not_false])
/-! ### texts in lists, slices -/
theorem seqs_strs : ∀ ws : List Str, seqDs (ws.map D.str) = true
  | [] => rfl
  | w :: ws => by simp only [List.map_cons, seqDs, seqD, seqs_strs ws, Bool.and_self]
theorem deps_strs : ∀ ws : List Str, deps (ws.map D.str) = 0
  | [] => rfl
  | w :: ws => by simp only [List.map_cons, deps, dep, deps_strs ws, Nat.max_self]
theorem eqb_ss (x y : Str) : eqb (.str x) (.str y) = decide (x = y) := by
  simp only [eqb]
  by_cases h : x = y
  · simp [h]
  · simp [h]
theorem any_strs (z : Str) (ws : List Str) : ((ws.map D.str).any fun d => eqb d (.str z)) = decide (z ∈ ws) := by
  induction ws with
  | nil => rfl
  | cons w ws ih =>
    simp only [List.map_cons, List.any_cons, ih, eqb_ss, List.mem_cons]
    by_cases h : w = z
    · simp [h]
    · have h2 : ¬ z = w := fun e => h e.symm
      simp [h, h2]
theorem in_strs {z : Str} {ws : List Str} {k : Bool → Prop} (h : k (decide (z ∈ ws))) : inD (.str z) (eStrs ws) k := by
  unfold eStrs
  rw [q_inL, any_strs]
  refine ⟨?_, h⟩
  rw [seqs_strs, deps_strs]
  rfl
theorem cut_to {α : Type} (xs : List α) {i : Int} (h : 0 ≤ i) : cutL xs none (some i) = xs.take i.toNat := by
  obtain ⟨k, rfl⟩ := Int.eq_ofNat_of_zero_le h
  unfold cutL
  rw [HT.sIx_nat, HT.sIx_none, Int.toNat_natCast, Nat.sub_zero, List.drop_zero]
  by_cases hl : k ≤ xs.length
  · rw [Nat.min_eq_left hl]
  · rw [Nat.min_eq_right (by omega), List.take_of_length_le (Nat.le_refl _), List.take_of_length_le (by omega)]
theorem cut_from {α : Type} (xs : List α) {i : Int} (h : 0 ≤ i) : cutL xs (some i) none = xs.drop i.toNat := by
  obtain ⟨k, rfl⟩ := Int.eq_ofNat_of_zero_le h
  unfold cutL
  rw [HT.sIx_nat, HT.sIx_none, Int.toNat_natCast]
  by_cases hl : k ≤ xs.length
  · rw [Nat.min_eq_left hl, List.take_of_length_le (by simp)]
  · rw [Nat.min_eq_right (by omega), List.drop_of_length_le (Nat.le_refl _), List.drop_of_length_le (by omega)]
    simp
theorem cutS_list (z : Str) (lo hi : Option Int) : (cutS z lo hi).cps.toList = cutL z.cps.toList lo hi := by
  unfold cutS cutL
  simp [Str.length]
def unS : D → Str
  | .str z => z
  | _ => ⟨#[]⟩
theorem perm_strs {es : List D} {ws : List Str} (h : es.Perm (ws.map D.str)) : ∃ ws' : List Str, es = ws'.map D.str ∧ ws'.Perm ws := by
  refine ⟨es.map unS, ?_, ?_⟩
  · rw [List.map_map]
    have : ∀ d ∈ es, d = (D.str ∘ unS) d := fun d hd => by
      obtain ⟨w, _, rfl⟩ := List.mem_map.mp (h.mem_iff.mp hd)
      rfl
    conv => lhs; rw [← List.map_id es]
    exact List.map_congr_left fun d hd => this d hd
  · have := h.map unS
    rw [List.map_map] at this
    have e : (unS ∘ D.str) = id := rfl
    rwa [e, List.map_id] at this
theorem nodup_le : ∀ {xs ys : List Str}, xs.Nodup → (∀ x ∈ xs, x ∈ ys) → xs.length ≤ ys.length
  | [], _, _, _ => Nat.zero_le _
  | x :: xs, ys, h, hs => by
    have hx := hs x (by simp)
    obtain ⟨h1, h2⟩ := List.nodup_cons.mp h
    have := nodup_le (xs := xs) (ys := ys.erase x) h2 fun y hy => (List.mem_erase_of_ne (fun e => h1 (by rw [← e]; exact hy))).mpr (hs y (by simp [hy]))
    rw [List.length_erase_of_mem hx] at this
    have hp : 0 < ys.length := List.length_pos_of_mem hx
    simp
    omega
def signL : List Str := letters.cps.toList.map fun c => ⟨#[c]⟩
theorem signL_nd : signL.Nodup := by decide +kernel
theorem signL_len : signL.length = 26 := by decide +kernel
theorem signL_ok : ∀ z ∈ signL, isSpelt z = true := by decide +kernel
theorem signs_L : signs letters = signL.map D.str := by unfold signs signL; rw [List.map_map]; rfl
theorem fresh_sign {ws : List Str} (h : ws.length < 26) : ∃ z zs, signL.filter (fun z => decide (z ∉ ws)) = z :: zs ∧ z ∉ ws ∧ isSpelt z = true := by
  cases e : signL.filter (fun z => decide (z ∉ ws)) with
  | nil =>
    rw [List.filter_eq_nil_iff] at e
    have := nodup_le (ys := ws) signL_nd fun x hx => by simpa using e x hx
    rw [signL_len] at this
    omega
  | cons z zs =>
    have hz : z ∈ signL.filter (fun z => decide (z ∉ ws)) := by rw [e]; simp
    obtain ⟨h1, h2⟩ := List.mem_filter.mp hz
    exact ⟨z, zs, rfl, by simpa using h2, signL_ok z h1⟩
theorem spelt_iff {z : Str} : isSpelt z = true ↔ (0 < z.cps.toList.length ∧ z.cps.toList.length < 9) ∧ ∀ c ∈ z.cps.toList, c ∈ letters.cps.toList := by
  unfold isSpelt
  simp only [Bool.and_eq_true, decide_eq_true_eq, List.all_eq_true, Str.length, Array.length_toList]
  exact ⟨fun ⟨a, b⟩ => ⟨of_decide_eq_true a, b⟩, fun ⟨a, b⟩ => ⟨decide_eq_true a, b⟩⟩
theorem spelt_put {z : Str} {i : Nat} {c : Nat} (hz : isSpelt z = true) (hi : i < z.length) (hc : c ∈ letters.cps.toList) : isSpelt (cutS z none (some (i : Int)) ++ ⟨#[c]⟩ ++ cutS z (some ((i : Int) + 1)) none) = true := by
  have hi' : i < z.cps.toList.length := by simpa [Str.length] using hi
  obtain ⟨h1, h2⟩ := spelt_iff.mp hz
  rw [str_app, str_app]
  refine spelt_iff.mpr ?_
  have e1 : (cutS z none (some (i : Int))).cps.toList = z.cps.toList.take i := by rw [cutS_list, cut_to _ (by omega)]; simp
  have e2 : (cutS z (some ((i : Int) + 1)) none).cps.toList = z.cps.toList.drop (i + 1) := by rw [cutS_list, cut_from _ (by omega)]; congr 1
  simp only [Array.toList_append, e1, e2]
  refine ⟨by simp at hi' h1 ⊢; omega, fun x hx => ?_⟩
  simp only [List.mem_append, List.mem_singleton] at hx
  rcases hx with (hx | hx) | hx
  · exact h2 x (List.mem_of_mem_take hx)
  · rw [hx]; exact hc
  · exact h2 x (List.mem_of_mem_drop hx)
theorem words_i {a : Addr} {n : Nat} {k : D → Nat → Prop} (hn : n + 30 ≤ BIG) (h : ∀ z n', isSpelt z = true → n ≤ n' → n' ≤ n + 30 → k (.str z) n') : sp_l_word a [.pur] n k := ⟨rfl, hn, h⟩
theorem filt_strs {ws : List Str} : ∀ l : List Str, (l.map D.str).filterMap (fun d => if decide (unS d ∉ ws) = true then some d else none) = (l.filter fun z => decide (z ∉ ws)).map D.str
  | [] => rfl
  | x :: l => by
    rw [List.map_cons, List.filterMap_cons, List.filter_cons]
    have u : unS (.str x) = x := rfl
    rw [u]
    cases e : decide (x ∉ ws) with
    | true => simp only [if_true, List.map_cons, filt_strs l]
    | false => simp only [Bool.false_eq_true, if_false, filt_strs l]
theorem atI_zero {α : Type} {x : α} {l : List α} : L2.atI (x :: l) 0 = some x := by
  unfold L2.atI L2.ixN
  simp
theorem okws_snoc {ws : List Str} {z : Str} (ok : OkWs ws) (h1 : z ∉ ws) (h2 : isSpelt z = true) : OkWs (ws ++ [z]) := by
  refine ⟨?_, fun x hx => ?_⟩
  · rw [List.nodup_append]
    refine ⟨ok.1, by simp, fun a ha b hb => ?_⟩
    rw [List.mem_singleton.mp hb]
    exact fun e => h1 (e ▸ ha)
  · rcases List.mem_append.mp hx with hx | hx
    · exact ok.2 x hx
    · rw [List.mem_singleton.mp hx]; exact h2
theorem strs_snoc (ws : List Str) (z : Str) : ws.map D.str ++ [D.str z] = (ws ++ [z]).map D.str := by simp
/-- a word goes behind the found ones -/
theorem words_tail {ws : List Str} {n' : Nat} {k : D → Mu → Prop} {w : Str} (hw : isSpelt w = true) (ok : OkWs ws) (hl : ws.length < 6) (hk : ∀ z : Str, OkWs (ws ++ [z]) → k (.str z) ⟨[eStrs (ws ++ [z])], n'⟩) :
    inD (.str w) (eStrs ws) fun b => br b (letters.cps.size ≤ lim ∧ (signs letters).length ≤ lim ∧ runC (fun d K (μ : Mu) => inD d (μ.rd (.hot 0)) fun c => br (!c) (K (some d) μ) (K none μ)) (signs letters) [] ⟨[eStrs ws], n'⟩ fun acc μ' =>
      onS (L2.atI acc 0) fun d => lstD (μ'.rd (.hot 0)) fun ds => lstD (μ'.rd (.hot 0)) fun ds => ds.length < lim ∧ k d (putS μ' 0 (.lst (ds ++ [d]))))
      (lstD (eStrs ws) fun ds => lstD (eStrs ws) fun ds => ds.length < lim ∧ k (.str w) ⟨[.lst (ds ++ [.str w])], n'⟩) := by
  have hlim : (ws.map D.str).length < lim := by simp [lim]; omega
  refine in_strs (br_i (fun _ => ?_) fun e => ?_)
  · obtain ⟨z, zs, e1, e2, e3⟩ := fresh_sign (ws := ws) (by omega)
    refine ⟨by decide +kernel, by decide +kernel, runC_pure (fun d => if decide (unS d ∉ ws) = true then some d else none) _ _ (fun d hd K hK => ?_) ?_⟩
    · rw [signs_L] at hd
      obtain ⟨x, _, rfl⟩ := List.mem_map.mp hd
      show inD (.str x) (eStrs ws) _
      refine in_strs (br_i (fun e => ?_) fun e => ?_)
      · have : decide (unS (.str x) ∉ ws) = true := by
          have h : x ∉ ws := by simpa using e
          exact decide_eq_true h
        rw [if_pos this] at hK; exact hK
      · have : ¬ decide (unS (.str x) ∉ ws) = true := by
          intro h
          have h' : x ∉ ws := of_decide_eq_true h
          have : x ∈ ws := by simpa using e
          exact h' this
        rw [if_neg this] at hK; exact hK
    · rw [signs_L, List.nil_append, filt_strs, e1, List.map_cons, atI_zero]
      refine ⟨hlim, ?_⟩
      show k (.str z) ⟨[.lst (ws.map D.str ++ [.str z])], n'⟩
      rw [strs_snoc]
      exact hk z (okws_snoc ok e2 e3)
  · refine ⟨hlim, ?_⟩
    rw [strs_snoc]
    exact hk w (okws_snoc ok (by simpa using e) hw)
end DL
/-! ## KS4 -/
namespace DL
open PySem PySem.Spec PyProof.Rows L2
local macro_rules | `(tactic| walk_at "d") => `(tactic| simp only [rSeq, rSet, rRet, rIfS, rFor, rDrop, rNext, rDead, rBrk, rCont, rPur, rPurSet, rVar, rC, rBin, rCh, rAndV, rOrV, rNotV, rAnd, rOr, rNot, rIf, rT, rCB, rCons, rNil, rCall, rIsi, rIsi2, rIsiC, rSl, rNo, rPt, rNeg, rRev, rTup, rLst, rLstH, rDctH, rDct0, rDisp, rDispH, rP0, rP1, rPar, rPar3, rUnp, rAsg, rAug, iIt, iRng, iRng2, iItems, iVals, iZip, gNm, rMut, rPut, rFrz, rLC, rSetLc, rDc, rDcH, rDC, rYes, rStar, rMeth0, rMake, rFldSet, rEqO, rTur, rJoin, rBits, rIndexD, rList_values, rList_items, rFld, rLC2, rIn, wipeR, br_t, br_f, rho0, ends, endsI, q_sel, q_isB, q_isPur, q_isI, q_strD, q_lstD, q_dkD, q_dkS, q_argS0, q_argSc, q_argSp, q_coldS, q_onS, q_noTy_non, q_noTy_bl, q_noTy_int, q_noTy_str, q_noTy_lst, q_noTy_tup, q_noTy_dk, q_noTy_obj, q_addI, q_addS, q_addL, q_addT, q_intD, q_ltI, q_ltS, q_g1, q_g2, q_lenL, q_lenT, q_lenK, q_lenS, q_intOf, q_listL, q_listT, q_listK, q_listS, q_iterL, q_iterT, q_iterK, q_iterS, q_ixL, q_ixT, q_ixS, q_ixK, q_slS, q_slL, q_inL, q_inK, q_inS, q_inV, q_ninV, q_eqD, q_neD, q_rdC, q_rdH, q_hotL, q_hotK, q_setM0, q_setM1, q_nth0, q_nthS, q_colds0, q_colds1, q_keyI, q_keyS, q_app, q_ins, q_gTp, q_gLs, q_gCs, q_gNl, q_frz0, q_frz1, q_thN, q_thC, q_thP, q_thH, q_putS, q_objS, q_fld, q_objP, q_zipL, q_zipT, q_all, q_any, q_kit_NoneType_bool, q_kit_NoneType_int, q_kit_NoneType_str, q_kit_NoneType_list, q_kit_NoneType_tuple, q_kit_NoneType_dict, q_kit_bool_bool, q_kit_bool_int, q_kit_bool_str, q_kit_bool_list, q_kit_bool_tuple, q_kit_bool_dict, q_kit_int_bool, q_kit_int_int, q_kit_int_str, q_kit_int_list, q_kit_int_tuple, q_kit_int_dict, q_kit_str_bool, q_kit_str_int, q_kit_str_str, q_kit_str_list, q_kit_str_tuple, q_kit_str_dict, q_kit_list_bool, q_kit_list_int, q_kit_list_str, q_kit_list_list, q_kit_list_tuple, q_kit_list_dict, q_kit_tuple_bool, q_kit_tuple_int, q_kit_tuple_str, q_kit_tuple_list, q_kit_tuple_tuple, q_kit_tuple_dict, q_kit_dict_bool, q_kit_dict_int, q_kit_dict_str, q_kit_dict_list, q_kit_dict_tuple, q_kit_dict_dict, List.map_cons, List.map_nil, List.length_cons, List.length_nil, List.append_nil, List.cons_append, List.nil_append, List.set_cons_zero, List.set_cons_succ, List.replicate_succ, List.replicate_zero, Nat.reduceSub, Nat.reduceAdd, tyN, List.getD_cons_zero, List.getD_cons_succ, if_true, if_false, true_and, and_true, Nat.zero_add, List.set_nil, Bool.not_true, Bool.not_false])
theorem s_words (a : Addr) : ∀ ss n kk, sp_l_words a ss n kk → t_l_words a (ends kk) (rho0 N_l_words ss) ⟨[], n⟩ := by
  rintro ss n kk ⟨m, rfl, h0, h1, h3, q⟩
  unfold t_l_words
  walk_at "d"
  refine words_i (by omega) fun z n1 hz m0 m1 => ?_
  have hz' := (spelt_iff.mp hz).1
  have hzl : z.length = z.cps.toList.length := by simp [Str.length]
  walk_at "d"
  refine draw_i (by decide) (by decide) (by omega) fun r n2 r0 r1 m2 m3 => ⟨by rfl, by simp [lim]; omega, ?_⟩
  refine draw_i (by omega) (by omega) (by omega) fun i n3 i0 i1 m4 m5 => ⟨by decide, by decide, by omega, by omega, ?_⟩
  generalize eqb (D.int r) (D.int 0) = near
  obtain ⟨i, rfl⟩ := Int.eq_ofNat_of_zero_le i0
  have hi : i < z.length := by omega
  have hlen : letters.length ≤ lim := by decide +kernel
  refine runF_ind (fun ds ρ μ => ∃ (ws : List Str) (x y : Option S) (nn : Nat), ρ = [some .pur, some (.c (.int m)), some (.c (.str z)), some (.c (.bl near)), some (.c (.int (i : Int))), some (.hot 0), x, y, none] ∧ μ = ⟨[eStrs ws], nn⟩ ∧ OkWs ws ∧ ds.length + ws.length = m.toNat ∧ n ≤ nn ∧ nn ≤ n + 40 + 60 * ws.length) ?_ ?_ _ _ _ ⟨[], none, none, n3, rfl, rfl, ⟨List.nodup_nil, by simp⟩, by simp, by omega, by simp; omega⟩
  · rintro d ds ρ μ k hk ⟨ws, x, y, nn, rfl, rfl, ok, hl, h4, h5⟩
    simp only [List.length_cons] at hl
    walk_at "d"
    have zl : z.length ≤ lim := by simp [lim]; omega
    refine ⟨zl, draw_i (by decide) (by decide) (by omega) fun c n' c0 c1 g0 g1' => ?_⟩
    obtain ⟨c, ec, hc⟩ := atI_ok (xs := letters.cps.toList) c0 (by rw [letters_len]; exact c1)
    walk_at "d"
    refine ⟨hlen, ?_⟩
    rw [ec]
    walk_at "d"
    have hput := spelt_put hz hi hc
    have hpl := (spelt_iff.mp hput).1
    have l1 : (cutS z none (some (i : Int))).length ≤ 9 := by
      have : (cutS z none (some (i : Int))).cps.toList.length ≤ 9 := by
        rw [cutS_list, cut_to _ (by omega)]; simp at hz' ⊢; omega
      simpa [Str.length] using this
    have l2 : (cutS z (some ((i : Int) + 1)) none).length ≤ 9 := by
      have : (cutS z (some ((i : Int) + 1)) none).cps.toList.length ≤ 9 := by
        rw [cutS_list, cut_from _ (by omega)]; simp at hz' ⊢; omega
      simpa [Str.length] using this
    have l3 : (cutS z none (some (i : Int)) ++ (⟨#[c]⟩ : Str)).length ≤ 10 := by
      rw [str_app]
      have : (cutS z none (some (i : Int))).cps.size ≤ 9 := l1
      simp [Str.length]; omega
    have o1 : (⟨#[c]⟩ : Str).length = 1 := rfl
    refine ⟨by rw [o1]; simp [lim]; omega, zl, by simp [lim]; omega, ?_⟩
    have fin : ∀ z' n'', OkWs (ws ++ [z']) → nn ≤ n'' → n'' ≤ nn + 50 → k [some S.pur, some (S.c (D.int m)), some (S.c (D.str z)), some (S.c (D.bl near)), some (S.c (D.int (i : Int))), some (S.hot 0), some (S.c d), some (S.c (.str z')), none] ⟨[eStrs (ws ++ [z'])], n''⟩ := fun z' n'' ok' e1 e2 =>
      hk _ _ ⟨ws ++ [z'], _, _, n'', rfl, rfl, ok', by simp; omega, by omega, by simp; omega⟩
    refine br_i (fun _ => ?_) fun _ => ?_
    · refine words_i (by omega) fun w n'' hw g2 g3 => ?_
      exact words_tail (k := fun d' μ' => k [some S.pur, some (S.c (D.int m)), some (S.c (D.str z)), some (S.c (D.bl near)), some (S.c (D.int (i : Int))), some (S.hot 0), some (S.c d), some (S.c d'), none] μ') hw ok (by omega) fun z' ok' => fin z' n'' ok' (by omega) (by omega)
    · exact words_tail (k := fun d' μ' => k [some S.pur, some (S.c (D.int m)), some (S.c (D.str z)), some (S.c (D.bl near)), some (S.c (D.int (i : Int))), some (S.hot 0), some (S.c d), some (S.c d'), none] μ') hput ok (by omega) fun z' ok' => fin z' n' ok' (by omega) (by omega)
  · rintro ρ μ ⟨ws, x, y, nn, rfl, rfl, ok, hl, h4, h5⟩
    simp only [List.length_nil] at hl
    walk_at "d"
    exact q ws nn ok (by omega) h4 (by omega)
end DL
/-! ## KS5 -/
namespace DL
open PySem PySem.Spec PyProof.Rows L2
local macro_rules | `(tactic| walk_at "d") => `(tactic| simp only [rSeq, rSet, rRet, rIfS, rFor, rDrop, rNext, rDead, rBrk, rCont, rPur, rPurSet, rVar, rC, rBin, rCh, rAndV, rOrV, rNotV, rAnd, rOr, rNot, rIf, rT, rCB, rCons, rNil, rCall, rIsi, rIsi2, rIsiC, rSl, rNo, rPt, rNeg, rRev, rTup, rLst, rLstH, rDctH, rDct0, rDisp, rDispH, rP0, rP1, rPar, rPar3, rUnp, rAsg, rAug, iIt, iRng, iRng2, iItems, iVals, iZip, gNm, rMut, rPut, rFrz, rLC, rSetLc, rDc, rDcH, rDC, rYes, rStar, rMeth0, rMake, rFldSet, rEqO, rTur, rJoin, rBits, rIndexD, rList_values, rList_items, rFld, rLC2, rIn, wipeR, br_t, br_f, rho0, ends, endsI, q_sel, q_isB, q_isPur, q_isI, q_strD, q_lstD, q_dkD, q_dkS, q_argS0, q_argSc, q_argSp, q_coldS, q_onS, q_noTy_non, q_noTy_bl, q_noTy_int, q_noTy_str, q_noTy_lst, q_noTy_tup, q_noTy_dk, q_noTy_obj, q_addI, q_addS, q_addL, q_addT, q_intD, q_ltI, q_ltS, q_g1, q_g2, q_lenL, q_lenT, q_lenK, q_lenS, q_intOf, q_listL, q_listT, q_listK, q_listS, q_iterL, q_iterT, q_iterK, q_iterS, q_ixL, q_ixT, q_ixS, q_ixK, q_slS, q_slL, q_inL, q_inK, q_inS, q_inV, q_ninV, q_eqD, q_neD, q_rdC, q_rdH, q_hotL, q_hotK, q_setM0, q_setM1, q_nth0, q_nthS, q_colds0, q_colds1, q_keyI, q_keyS, q_app, q_ins, q_gTp, q_gLs, q_gCs, q_gNl, q_frz0, q_frz1, q_thN, q_thC, q_thP, q_thH, q_putS, q_objS, q_fld, q_objP, q_zipL, q_zipT, q_all, q_any, q_kit_NoneType_bool, q_kit_NoneType_int, q_kit_NoneType_str, q_kit_NoneType_list, q_kit_NoneType_tuple, q_kit_NoneType_dict, q_kit_bool_bool, q_kit_bool_int, q_kit_bool_str, q_kit_bool_list, q_kit_bool_tuple, q_kit_bool_dict, q_kit_int_bool, q_kit_int_int, q_kit_int_str, q_kit_int_list, q_kit_int_tuple, q_kit_int_dict, q_kit_str_bool, q_kit_str_int, q_kit_str_str, q_kit_str_list, q_kit_str_tuple, q_kit_str_dict, q_kit_list_bool, q_kit_list_int, q_kit_list_str, q_kit_list_list, q_kit_list_tuple, q_kit_list_dict, q_kit_tuple_bool, q_kit_tuple_int, q_kit_tuple_str, q_kit_tuple_list, q_kit_tuple_tuple, q_kit_tuple_dict, q_kit_dict_bool, q_kit_dict_int, q_kit_dict_str, q_kit_dict_list, q_kit_dict_tuple, q_kit_dict_dict, List.map_cons, List.map_nil, List.length_cons, List.length_nil, List.append_nil, List.cons_append, List.nil_append, List.set_cons_zero, List.set_cons_succ, List.replicate_succ, List.replicate_zero, Nat.reduceSub, Nat.reduceAdd, tyN, List.getD_cons_zero, List.getD_cons_succ, if_true, if_false, true_and, and_true, Nat.zero_add, List.set_nil, Bool.not_true, Bool.not_false])
theorem spelt_kinds : ∀ z ∈ (["says", "hears", "done", "start", "end"] : List Str), isSpelt z = true := by decide +kernel
theorem kinds_nd : (["says", "hears", "done", "start", "end"] : List Str).Nodup := by decide +kernel
theorem shuffled_i {a : Addr} {n : Nat} {ws : List Str} {k : D → Nat → Prop} (hl : ws.length < 50) (hn : n + 100 ≤ BIG) (h : ∀ ws' n', ws'.Perm ws → n ≤ n' → n' ≤ n + 100 → k (eStrs ws') n') : sp_l_shuffled a [.pur, .c (eStrs ws)] n k :=
  ⟨ws.map D.str, rfl, by simpa using hl, hn, fun es n' hp m0 m1 => by
    obtain ⟨ws', rfl, hp'⟩ := perm_strs hp
    exact h ws' n' hp' m0 m1⟩
theorem okws_perm {ws ws' : List Str} (ok : OkWs ws) (h : ws'.Perm ws) : OkWs ws' := ⟨h.nodup_iff.mpr ok.1, fun z hz => ok.2 z (h.mem_iff.mp hz)⟩
theorem okws_take {ws : List Str} (ok : OkWs ws) (i : Nat) : OkWs (ws.take i) := ⟨ok.1.sublist (List.take_sublist _ _), fun z hz => ok.2 z (List.mem_of_mem_take hz)⟩
theorem s_pool (a : Addr) : ∀ ss n kk, sp_l_pool a ss n kk → t_l_pool a (ends kk) (rho0 N_l_pool ss) ⟨[], n⟩ := by
  rintro ss n kk ⟨rfl, h3, q⟩
  unfold t_l_pool
  walk_at "d"
  refine ⟨6, rfl, by decide, by decide, by omega, fun ws n1 ok hl m0 m1 => ?_⟩
  have hl : ws.length = 6 := by omega
  walk_at "d"
  refine draw_i (by decide) (by decide) (by omega) fun r n2 r0 r1 m2 m3 => ⟨by rfl, br_i (fun _ => ?_) fun _ => ?_⟩
  · refine ⟨by decide, by decide, ?_⟩
    refine runC_pure (fun d => if decide (unS d ∉ ws) = true then some d else none) _ _ (fun d hd K hK => ?_) ?_
    · have : d ∈ (["says", "hears", "done", "start", "end"] : List Str).map D.str := hd
      obtain ⟨x, _, rfl⟩ := List.mem_map.mp this
      refine in_strs (br_i (fun e => ?_) fun e => ?_)
      · have : decide (unS (.str x) ∉ ws) = true := by
          have h : x ∉ ws := by simpa using e
          exact decide_eq_true h
        rw [if_pos this] at hK; exact hK
      · have : ¬ decide (unS (.str x) ∉ ws) = true := by
          intro h
          have h' : x ∉ ws := of_decide_eq_true h
          have : x ∈ ws := by simpa using e
          exact h' this
        rw [if_neg this] at hK; exact hK
    · rw [List.nil_append]
      show addD (.lst (cutL (((["says", "hears", "done", "start", "end"] : List Str).map D.str).filterMap (fun d => if decide (unS d ∉ ws) = true then some d else none)) none (some 2))) (eStrs ws) _
      rw [filt_strs, cut_to _ (by decide), ← List.map_take]
      generalize hx : ((["says", "hears", "done", "start", "end"] : List Str).filter fun z => decide (z ∉ ws)).take (2 : Int).toNat = xs
      have ok1 : OkWs (xs ++ ws) := by
        have s1 : ∀ z ∈ xs, z ∉ ws ∧ isSpelt z = true := fun z hz => by
          rw [← hx] at hz
          obtain ⟨h1, h2⟩ := List.mem_filter.mp (List.mem_of_mem_take hz)
          exact ⟨by simpa using h2, spelt_kinds z h1⟩
        have s2 : xs.Nodup := by
          rw [← hx]
          exact (kinds_nd.sublist List.filter_sublist).sublist (List.take_sublist _ _)
        refine ⟨List.nodup_append.mpr ⟨s2, ok.1, fun x hx y hy e => (s1 x hx).1 (e ▸ hy)⟩, fun z hz => ?_⟩
        rcases List.mem_append.mp hz with hz | hz
        · exact (s1 z hz).2
        · exact ok.2 z hz
      have hxl : xs.length ≤ 2 := by rw [← hx]; simp; omega
      unfold eStrs
      walk_at "d"
      refine ⟨by simp [lim]; omega, ?_⟩
      rw [← List.map_append, cut_to _ (by decide), ← List.map_take]
      refine shuffled_i (ws := (xs ++ ws).take 6) (by simp; omega) (by omega) fun ws' n' hp m4 m5 => ?_
      refine q ws' n' (okws_perm (okws_take ok1 _) hp) ?_ (by omega) (by omega)
      rw [hp.length_eq]; simp; omega
  · refine shuffled_i (by omega) (by omega) fun ws' n' hp m4 m5 => ?_
    exact q ws' n' (okws_perm ok hp) (by rw [hp.length_eq]; exact hl) (by omega) (by omega)
/-! ### dicts with texts as keys -/
def eT {α : Type} (f : α → D) (t : List (Str × α)) : List (Key × D) := t.map fun p => (.inr p.1, f p.2)
def putT {α : Type} (t : List (Str × α)) (k : Str) (v : α) : List (Str × α) := if k ∈ t.map (·.1) then t.map (fun p => if p.1 = k then (p.1, v) else p) else t ++ [(k, v)]
theorem eT_any {α : Type} {f : α → D} (k : Str) : ∀ t : List (Str × α), ((eT f t).any fun kv => decide (kv.1 = (.inr k : Key))) = decide (k ∈ t.map (·.1))
  | [] => rfl
  | p :: t => by
    have ih := eT_any (f := f) k t
    unfold eT at ih ⊢
    simp only [List.map_cons, List.any_cons, ih, List.mem_cons]
    by_cases h : p.1 = k
    · simp [h]
    · have h2 : ¬ k = p.1 := fun e => h e.symm
      simp [h, h2]
theorem putD_e {α : Type} {f : α → D} (t : List (Str × α)) (k : Str) (v : α) : putD (eT f t) (.inr k : Key) (f v) = eT f (putT t k v) := by
  unfold putD putT
  rw [eT_any]
  by_cases h : k ∈ t.map (·.1)
  · rw [if_pos h, if_pos (decide_eq_true h)]
    unfold eT
    rw [List.map_map, List.map_map]
    refine List.map_congr_left fun p _ => ?_
    simp only [Function.comp]
    by_cases e : p.1 = k
    · simp [e]
    · simp [e]
  · rw [if_neg h, if_neg (by simpa using h)]
    simp [eT]
theorem putT_keys {α : Type} (t : List (Str × α)) (k : Str) (v : α) : (putT t k v).map (·.1) = if k ∈ t.map (·.1) then t.map (·.1) else t.map (·.1) ++ [k] := by
  unfold putT
  by_cases h : k ∈ t.map (·.1)
  · rw [if_pos h, if_pos h, List.map_map]
    refine List.map_congr_left fun p _ => ?_
    simp only [Function.comp]
    by_cases e : p.1 = k <;> simp [e]
  · rw [if_neg h, if_neg h]; simp
theorem putT_mem {α : Type} {t : List (Str × α)} {k : Str} {v : α} {p : Str × α} (h : p ∈ putT t k v) : p = (k, v) ∨ p ∈ t := by
  unfold putT at h
  by_cases hk : k ∈ t.map (·.1)
  · rw [if_pos hk] at h
    obtain ⟨q, hq, rfl⟩ := List.mem_map.mp h
    by_cases e : q.1 = k
    · left; simp [e]
    · right; simp [e]; exact hq
  · rw [if_neg hk] at h
    rcases List.mem_append.mp h with h | h
    · exact .inr h
    · exact .inl (List.mem_singleton.mp h)
theorem putT_len {α : Type} (t : List (Str × α)) (k : Str) (v : α) : (putT t k v).length ≤ t.length + 1 := by
  unfold putT
  split <;> simp
theorem noty_strs (ws : List Str) : ∀ t, D.ty t ∉ ws.map D.str := fun t h => by
  obtain ⟨_, _, e⟩ := List.mem_map.mp h
  cases e
theorem one_i {a : Addr} {n : Nat} {ws : List Str} {k : D → Nat → Prop} (h0 : ws ≠ []) (hl : ws.length < 100) (hn : n + 2 ≤ BIG) (h : ∀ z n', z ∈ ws → n ≤ n' → n' ≤ n + 2 → k (.str z) n') : sp_l_one_of a [.pur, .c (.lst (ws.map D.str))] n k :=
  ⟨ws.map D.str, rfl, by simpa using h0, noty_strs ws, by simpa using hl, hn, fun d n' hd m0 m1 => by
    obtain ⟨z, hz, rfl⟩ := List.mem_map.mp hd
    exact h z n' hz m0 m1⟩
theorem keys_e {α : Type} {f : α → D} (t : List (Str × α)) : (eT f t).map (fun p => kD p.1) = (t.map (·.1)).map D.str := by
  unfold eT
  rw [List.map_map, List.map_map]
  rfl
theorem s_turns (a : Addr) : ∀ ss n kk, sp_l_turns a ss n kk → t_l_turns a (ends kk) (rho0 N_l_turns ss) ⟨[], n⟩ := by
  rintro ss n kk ⟨sts, ws, at_, top, rfl, h1, h2, h3, h4, h5, h6, h7, h8, h9, h10, q⟩
  have hw : 0 < ws.length := List.length_pos_iff.mpr h2
  have hs : 0 < sts.length := List.length_pos_iff.mpr h4
  unfold t_l_turns
  walk_at "d"
  unfold eStrs
  walk_at "d"
  generalize hm : (if (if ((List.map D.str ws).length : Int) < top then ((List.map D.str ws).length : Int) else top) > 1 then (if ((List.map D.str ws).length : Int) < top then ((List.map D.str ws).length : Int) else top) else 1 : Int) = many
  have hmany : 1 ≤ many ∧ many ≤ ws.length := by
    rw [← hm]
    simp only [List.length_map]
    split <;> split <;> omega
  refine draw_i (by omega) (by omega) (by omega) fun r n1 r0 r1 m0 m1 => ?_
  walk_at "d"
  refine shuffled_i (ws := ws) (by omega) (by omega) fun ws' n2 hp m2 m3 => ?_
  unfold eStrs
  walk_at "d"
  have okw := okws_take (okws_perm h1 hp) (1 + r).toNat
  have hpl := hp.length_eq
  rw [cut_to _ (by omega), ← List.map_take]
  have hsub : ∀ z ∈ ws'.take (1 + r).toNat, z ∈ ws := fun z hz => hp.mem_iff.mp (List.mem_of_mem_take hz)
  have hlen : (ws'.take (1 + r).toNat).length = (1 + r).toNat := by simp; omega
  generalize ws'.take (1 + r).toNat = us at okw hsub hlen
  refine runF_ind (fun ds ρ μ => ∃ (t : List (Str × Str)) (rest : List Str) (x : Option S) (nn : Nat), ds = rest.map D.str ∧ ρ = [some .pur, some (.c (.lst (sts.map D.str))), some (.c (.lst (ws.map D.str))), some (.c (.int at_)), some (.c (.int top)), some (.c (.int (1 + r))), some (.hot 0), x] ∧ μ = ⟨[.dk (eT D.str t)], nn⟩ ∧
    (t.map (·.1) ++ rest).Nodup ∧ (∀ z ∈ t.map (·.1) ++ rest, z ∈ ws) ∧ (∀ p ∈ t, p.2 ∈ sts) ∧ t.length + rest.length = us.length ∧ n ≤ nn ∧ nn ≤ n + 110 + 2 * t.length) ?_ ?_ _ _ _ ⟨[], us, none, n2, rfl, rfl, rfl, okw.1, hsub, by simp, by simp, by omega, by simp; omega⟩
  · rintro d ds ρ μ k hk ⟨t, rest, x, nn, hd, rfl, rfl, e1, e2, e3, e4, e5, e6⟩
    cases rest with
    | nil => cases hd
    | cons w rest =>
      simp only [List.map_cons, List.cons.injEq] at hd
      obtain ⟨rfl, rfl⟩ := hd
      simp only [List.length_cons] at e4
      walk_at "d"
      refine one_i h4 (by omega) (by omega) fun g n' hg m4 m5 => ?_
      have hnew : w ∉ t.map (·.1) := fun h => by
        rw [List.nodup_append] at e1
        exact e1.2.2 w h w (by simp) rfl
      rw [putD_e]
      refine ⟨by simp [eT, lim]; omega, hk _ _ ⟨putT t w g, rest, _, n', rfl, rfl, rfl, ?_, ?_, ?_, ?_, by omega, ?_⟩⟩
      · rw [putT_keys, if_neg hnew]; simpa using e1
      · rw [putT_keys, if_neg hnew]; simpa using e2
      · intro p hp'
        rcases putT_mem hp' with rfl | h
        · exact hg
        · exact e3 p h
      · have : (putT t w g).length = t.length + 1 := by unfold putT; rw [if_neg hnew]; simp
        omega
      · have : (putT t w g).length = t.length + 1 := by unfold putT; rw [if_neg hnew]; simp
        omega
  · rintro ρ μ ⟨t, rest, x, nn, hd, rfl, rfl, e1, e2, e3, e4, e5, e6⟩
    cases rest with
    | cons w rest => cases hd
    | nil =>
      simp only [List.append_nil, List.length_nil, Nat.add_zero] at e1 e2 e4
      have hne : t ≠ [] := fun e => by rw [e] at e4; simp at e4; omega
      have htl : t.length ≤ 6 := by omega
      have okt : OkT sts ws t := ⟨hne, e1, htl, fun p hp => e2 p.1 (List.mem_map_of_mem hp), e3⟩
      walk_at "d"
      refine br_i (fun hat => ?_) fun _ => ?_
      · simp only [List.length_map, decide_eq_true_eq] at hat
        refine draw_i (by decide) (by decide) (by omega) fun b n3 b0 b1 m4 m5 => ⟨trivial, br_i (fun _ => ?_) fun _ => ?_⟩
        · rw [cut_from _ (by omega), ← List.map_drop]
          refine one_i (fun e => ?_) (by simp; omega) (by omega) fun g n4 hg m6 m7 => ?_
          · have := congrArg List.length e
            simp at this
            omega
          · rw [keys_e]
            refine one_i (by simpa using hne) (by simp; omega) (by omega) fun w n5 hw' m8 m9 => ?_
            walk_at "d"
            rw [putD_e]
            refine ⟨by simp [eT, lim]; omega, ?_⟩
            refine q (putT t w g) n5 ⟨?_, ?_, ?_, ?_, ?_⟩ (by omega) (by omega)
            · intro e
              have := congrArg (List.map (·.1)) e
              rw [putT_keys, if_pos hw'] at this
              exact hne (by simpa using this)
            · rw [putT_keys, if_pos hw']; exact e1
            · have : (putT t w g).length = t.length := by unfold putT; rw [if_pos hw']; simp
              omega
            · intro p hp'
              rcases putT_mem hp' with rfl | h
              · exact e2 w hw'
              · exact okt.2.2.2.1 p h
            · intro p hp'
              rcases putT_mem hp' with rfl | h
              · exact List.mem_of_mem_drop hg
              · exact e3 p h
        · exact q t n3 okt (by omega) (by omega)
      · exact q t nn okt e5 (by omega)
end DL
/-! ## KS6 -/
namespace DL
open PySem PySem.Spec PyProof.Rows L2
local macro_rules | `(tactic| walk_at "d") => `(tactic| simp only [rSeq, rSet, rRet, rIfS, rFor, rDrop, rNext, rDead, rBrk, rCont, rPur, rPurSet, rVar, rC, rBin, rCh, rAndV, rOrV, rNotV, rAnd, rOr, rNot, rIf, rT, rCB, rCons, rNil, rCall, rIsi, rIsi2, rIsiC, rSl, rNo, rPt, rNeg, rRev, rTup, rLst, rLstH, rDctH, rDct0, rDisp, rDispH, rP0, rP1, rPar, rPar3, rUnp, rAsg, rAug, iIt, iRng, iRng2, iItems, iVals, iZip, gNm, rMut, rPut, rFrz, rLC, rSetLc, rDc, rDcH, rDC, rYes, rStar, rMeth0, rMake, rFldSet, rEqO, rTur, rJoin, rBits, rIndexD, rList_values, rList_items, rFld, rLC2, rIn, wipeR, br_t, br_f, rho0, ends, endsI, q_sel, q_isB, q_isPur, q_isI, q_strD, q_lstD, q_dkD, q_dkS, q_argS0, q_argSc, q_argSp, q_coldS, q_onS, q_noTy_non, q_noTy_bl, q_noTy_int, q_noTy_str, q_noTy_lst, q_noTy_tup, q_noTy_dk, q_noTy_obj, q_addI, q_addS, q_addL, q_addT, q_intD, q_ltI, q_ltS, q_g1, q_g2, q_lenL, q_lenT, q_lenK, q_lenS, q_intOf, q_listL, q_listT, q_listK, q_listS, q_iterL, q_iterT, q_iterK, q_iterS, q_ixL, q_ixT, q_ixS, q_ixK, q_slS, q_slL, q_inL, q_inK, q_inS, q_inV, q_ninV, q_eqD, q_neD, q_rdC, q_rdH, q_hotL, q_hotK, q_setM0, q_setM1, q_nth0, q_nthS, q_colds0, q_colds1, q_keyI, q_keyS, q_app, q_ins, q_gTp, q_gLs, q_gCs, q_gNl, q_frz0, q_frz1, q_thN, q_thC, q_thP, q_thH, q_putS, q_objS, q_fld, q_objP, q_zipL, q_zipT, q_all, q_any, q_kit_NoneType_bool, q_kit_NoneType_int, q_kit_NoneType_str, q_kit_NoneType_list, q_kit_NoneType_tuple, q_kit_NoneType_dict, q_kit_bool_bool, q_kit_bool_int, q_kit_bool_str, q_kit_bool_list, q_kit_bool_tuple, q_kit_bool_dict, q_kit_int_bool, q_kit_int_int, q_kit_int_str, q_kit_int_list, q_kit_int_tuple, q_kit_int_dict, q_kit_str_bool, q_kit_str_int, q_kit_str_str, q_kit_str_list, q_kit_str_tuple, q_kit_str_dict, q_kit_list_bool, q_kit_list_int, q_kit_list_str, q_kit_list_list, q_kit_list_tuple, q_kit_list_dict, q_kit_tuple_bool, q_kit_tuple_int, q_kit_tuple_str, q_kit_tuple_list, q_kit_tuple_tuple, q_kit_tuple_dict, q_kit_dict_bool, q_kit_dict_int, q_kit_dict_str, q_kit_dict_list, q_kit_dict_tuple, q_kit_dict_dict, List.map_cons, List.map_nil, List.length_cons, List.length_nil, List.append_nil, List.cons_append, List.nil_append, List.set_cons_zero, List.set_cons_succ, List.replicate_succ, List.replicate_zero, Nat.reduceSub, Nat.reduceAdd, tyN, List.getD_cons_zero, List.getD_cons_succ, if_true, if_false, true_and, and_true, Nat.zero_add, List.set_nil, Bool.not_true, Bool.not_false])
theorem eqb_ii (i j : Int) : eqb (.int i) (.int j) = decide (i = j) := by
  simp only [eqb]
  by_cases h : i = j
  · simp [h]
  · simp [h]
theorem atI_nat {α : Type} {xs : List α} {i : Nat} (h : i < xs.length) : L2.atI xs (i : Int) = some xs[i] := by
  unfold L2.atI L2.ixN
  rw [if_pos (by omega), if_pos (by omega)]
  simp [h]
theorem okrow_done (keys : List Str) : OkRow keys ⟨"done", []⟩ := ⟨by decide +kernel, ⟨fun _ => rfl, fun _ => rfl⟩, by simp, by simp, by simp, by simp⟩
theorem okrow_of {keys ws : List Str} {t : List (Str × Str)} {kd : Str} (h : OkT keys ws t) (ok : OkWs ws) (hk : kd ∈ kindS) (hd : kd ≠ "done") : OkRow keys ⟨kd, t⟩ :=
  ⟨hk, ⟨fun e => absurd e hd, fun e => absurd e h.1⟩, h.2.1, h.2.2.1, fun p hp => ok.2 _ (h.2.2.2.1 p hp), h.2.2.2.2⟩
/-- one state's row -/
theorem world_body (a : Addr) {ws sts : List Str} {m top last : Int} {b : Book} {i : Nat} {nn : Nat} {y : Option S} {k : Rho → Mu → Prop} {rt : D → Nat → Prop} {bk ct : Rho → Mu → Prop} (ok : OkWs ws) (hw : ws ≠ []) (hl : ws.length ≤ 6) (hi : i < sts.length) (hs : sts.length ≤ 6) (ht : 1 ≤ top ∧ top ≤ 6) (hb : b.length ≤ 6) (hn : nn + 310 ≤ BIG)
    (hk : ∀ r nn' y', OkRow sts r → nn ≤ nn' → nn' ≤ nn + 310 → k [some .pur, some (.c (.int m)), some (.c (eStrs ws)), some (.c (.int top)), some (.c (eStrs sts)), some (.hot 0), some (.c (.int last)), some (.c (.int (i : Int))), y'] ⟨[.dk (eT eRow (putT b sts[i] r))], nn'⟩) :
    t_l_world_3_b a { nx := k, rt := rt, bk := bk, ct := ct } [some .pur, some (.c (.int m)), some (.c (eStrs ws)), some (.c (.int top)), some (.c (eStrs sts)), some (.hot 0), some (.c (.int last)), some (.c (.int (i : Int))), y] ⟨[.dk (eT eRow b)], nn⟩ := by
  unfold t_l_world_3_b
  walk_at "d"
  refine draw_i (by decide) (by decide) (by omega) fun r n1 r0 r1 m0 m1 => ?_
  unfold t_l_world_3_b_1
  have hat : L2.atI (sts.map D.str) (i : Int) = some (.str sts[i]) := by
    have h1 : i < (sts.map D.str).length := by simpa using hi
    rw [atI_nat h1]
    simp
  have hbl : (eT eRow b).length < lim := by simp [eT, lim]; omega
  have fin1 : (2 ≤ lim ∧ onS (L2.atI (sts.map D.str) (i : Int)) fun d_3 => keyS d_3 fun key => (eT eRow b).length < lim ∧ k [some .pur, some (.c (.int m)), some (.c (eStrs ws)), some (.c (.int top)), some (.c (eStrs sts)), some (.hot 0), some (.c (.int last)), some (.c (.int (i : Int))), some (.c (.int r))] ⟨[.dk (putD (eT eRow b) key (.tup [.str (Str.ofString "done"), .dk []]))], n1⟩) := by
    refine ⟨by decide, ?_⟩
    rw [hat]
    show (eT eRow b).length < lim ∧ _
    refine ⟨hbl, ?_⟩
    have := putD_e (f := eRow) b sts[i] ⟨"done", []⟩
    show k _ ⟨[.dk (putD (eT eRow b) (.inr sts[i]) (eRow ⟨"done", []⟩))], n1⟩
    rw [this]
    exact hk _ _ _ (okrow_done sts) (by omega) (by omega)
  have fin2 : ∀ kd : Str, kd ∈ kindS → kd ≠ "done" → sp_l_turns a [.pur, .c (eStrs sts), .c (eStrs ws), .c (.int (i : Int)), .c (.int top)] n1 fun d n' => 2 ≤ lim ∧ onS (L2.atI (sts.map D.str) (i : Int)) fun d_3 => keyS d_3 fun key => (eT eRow b).length < lim ∧ k [some .pur, some (.c (.int m)), some (.c (eStrs ws)), some (.c (.int top)), some (.c (eStrs sts)), some (.hot 0), some (.c (.int last)), some (.c (.int (i : Int))), some (.c (.int r))] ⟨[.dk (putD (eT eRow b) key (.tup [.str kd, d]))], n'⟩ := by
    intro kd hkd hnd
    refine ⟨sts, ws, (i : Int), top, rfl, ok, hw, hl, fun e => by rw [e] at hi; simp at hi, hs, by omega, by omega, ht.1, ht.2, by omega, fun t n2 okt m2 m3 => ⟨by decide, ?_⟩⟩
    rw [hat]
    show (eT eRow b).length < lim ∧ _
    refine ⟨hbl, ?_⟩
    show k _ ⟨[.dk (putD (eT eRow b) (.inr sts[i]) (eRow ⟨kd, t⟩))], n2⟩
    rw [putD_e (f := eRow) b sts[i] ⟨kd, t⟩]
    exact hk _ _ _ (okrow_of okt ok hkd hnd) (by omega) (by omega)
  walk_at "d"
  have sy := fin2 "says" (by decide +kernel) (by decide +kernel)
  have hy := fin2 "hears" (by decide +kernel) (by decide +kernel)
  exact ⟨rfl, br_i (fun _ => br_i (fun _ => fin1) fun _ => ⟨rfl, br_i (fun _ => br_i (fun _ => fin1) fun _ => ⟨by decide, rfl, br_i (fun _ => sy) fun _ => hy⟩) fun _ => ⟨by decide, rfl, br_i (fun _ => sy) fun _ => hy⟩⟩)
    fun _ => ⟨rfl, br_i (fun _ => br_i (fun _ => fin1) fun _ => ⟨by decide, rfl, br_i (fun _ => sy) fun _ => hy⟩) fun _ => ⟨by decide, rfl, br_i (fun _ => sy) fun _ => hy⟩⟩⟩
theorem putT_new {α : Type} {t : List (Str × α)} {k : Str} {v : α} (h : k ∉ t.map (·.1)) : putT t k v = t ++ [(k, v)] := by
  unfold putT; rw [if_neg h]
/-- the loop over the states -/
theorem world_loop (a : Addr) {ws sts : List Str} {m top last : Int} {nn : Nat} {x : Option S} {kk : D → Nat → Prop} (ok : OkWs ws) (hw : ws ≠ []) (hl : ws.length ≤ 6) (oks : OkWs sts) (hne : sts ≠ []) (hs : sts.length ≤ 6) (ht : 1 ≤ top ∧ top ≤ 6) (hn : nn + 2400 ≤ BIG)
    (q : ∀ w n', OkW w → nn ≤ n' → n' ≤ nn + 2400 → kk (eWorld w) n') :
    t_l_world_3 a (ends kk) [some .pur, some (.c (.int m)), some (.c (eStrs ws)), some (.c (.int top)), some (.c (eStrs sts)), some (.hot 0), some (.c (.int last)), none, none] ⟨[.dk []], nn⟩ := by
  unfold t_l_world_3
  walk_at "d"
  unfold eStrs
  walk_at "d"
  refine ⟨by omega, by simp; omega, ?_⟩
  refine runF_ind (fun ds ρ μ => ∃ (b : Book) (j : Nat) (x y : Option S) (nn' : Nat), ds = (List.range' j (sts.length - j)).map (fun i : Nat => D.int (0 + (i : Int))) ∧ j ≤ sts.length ∧ ρ = [some .pur, some (.c (.int m)), some (.c (eStrs ws)), some (.c (.int top)), some (.c (eStrs sts)), some (.hot 0), some (.c (.int last)), x, y] ∧ μ = ⟨[.dk (eT eRow b)], nn'⟩ ∧
    b.map (·.1) = sts.take j ∧ (∀ p ∈ b, OkRow sts p.2) ∧ nn ≤ nn' ∧ nn' ≤ nn + 310 * j) ?_ ?_ _ _ _ ⟨[], 0, none, none, nn, by simp [List.range_eq_range'], Nat.zero_le _, rfl, rfl, by simp, by simp, Nat.le_refl _, by simp⟩
  · rintro d ds ρ μ k hk ⟨b, j, x, y, nn', hd, hj, rfl, rfl, e1, e2, e3, e4⟩
    have hjl : j < sts.length := by
      by_cases h : j < sts.length
      · exact h
      · have : sts.length - j = 0 := by omega
        rw [this] at hd
        cases hd
    have hb : b.length = j := by
      have := congrArg List.length e1
      simp at this
      omega
    have hr : sts.length - j = (sts.length - (j + 1)) + 1 := by omega
    rw [hr, List.range'_succ, List.map_cons, List.cons.injEq] at hd
    obtain ⟨rfl, rfl⟩ := hd
    rw [Int.zero_add]
    refine world_body a ok hw hl hjl hs ht (by omega) (by omega) fun r nn2 y' hr1 m0 m1 => ?_
    have hnew : sts[j] ∉ b.map (·.1) := by
      rw [e1]
      intro h
      obtain ⟨i, hi, e⟩ := List.getElem_of_mem h
      simp at hi
      rw [List.getElem_take] at e
      have := (List.getElem_inj oks.1).mp e
      omega
    refine hk _ _ ⟨putT b sts[j] r, j + 1, _, _, nn2, rfl, hjl, rfl, rfl, ?_, ?_, by omega, by omega⟩
    · rw [putT_new hnew, List.map_append, e1, List.take_succ_eq_append_getElem hjl]; rfl
    · intro p hp
      rcases putT_mem hp with rfl | h
      · exact hr1
      · exact e2 p h
  · rintro ρ μ ⟨b, j, x, y, nn', hd, hj, rfl, rfl, e1, e2, e3, e4⟩
    have hj2 : j = sts.length := by
      have := congrArg List.length hd
      simp at this
      omega
    subst hj2
    rw [List.take_of_length_le (Nat.le_refl _)] at e1
    have h0 : 0 < sts.length := List.length_pos_iff.mpr hne
    unfold t_l_world_4
    have hat : L2.atI (sts.map D.str) 0 = some (.str sts[0]) := by
      have h1 : 0 < (sts.map D.str).length := by simpa using h0
      have := atI_nat h1
      simpa using this
    have hat2 : ixD (eStrs sts) (.int 0) = fun k => k (.str sts[0]) := by
      funext k
      show onS (L2.atI (sts.map D.str) 0) k = _
      rw [hat]
      rfl
    walk_at "d"
    rw [hat2]
    refine ⟨by decide, q ⟨b, sts[0]⟩ nn' ⟨⟨?_, ?_, ?_, ?_, ?_⟩, ?_⟩ e3 (by omega)⟩
    · intro e
      have e : b = [] := e
      rw [e] at e1; exact hne e1.symm
    · rw [e1]; exact oks.1
    · have := congrArg List.length e1
      simp at this
      show b.length ≤ 6
      omega
    · intro p hp
      exact oks.2 p.1 (e1 ▸ List.mem_map_of_mem hp)
    · intro p hp; rw [e1]; exact e2 p hp
    · rw [e1]; exact List.getElem_mem h0
/-- the states that stand at their first places -/
theorem world_dedup (a : Addr) {ws sts : List Str} {m top : Int} {nn : Nat} {kk : D → Nat → Prop} (ok : OkWs ws) (hw : ws ≠ []) (hl : ws.length ≤ 6) (hsp : ∀ z ∈ sts, isSpelt z = true) (hm : (sts.length : Int) = m) (hne : sts ≠ []) (hs : sts.length ≤ 6) (ht : 1 ≤ top ∧ top ≤ 6) (hn : nn + 2400 ≤ BIG)
    (q : ∀ w n', OkW w → nn ≤ n' → n' ≤ nn + 2400 → kk (eWorld w) n') :
    t_l_world_1 a (ends kk) [some .pur, some (.c (.int m)), some (.c (eStrs ws)), some (.c (.int top)), some (.c (eStrs sts)), none, none, none, none] ⟨[], nn⟩ := by
  have h0 : 0 < sts.length := List.length_pos_iff.mpr hne
  unfold t_l_world_1
  walk_at "d"
  refine ⟨by omega, by omega, by simp [lim]; omega, ?_⟩
  refine runC_ind (fun ds acc μ => ∃ (j : Nat) (ds' : List Str), ds = (List.range' j (sts.length - j)).map (fun i : Nat => D.int (0 + (i : Int))) ∧ j ≤ sts.length ∧ acc = ds'.map D.str ∧ μ = ⟨[], nn⟩ ∧ ds'.Nodup ∧ (∀ z ∈ ds', z ∈ sts.take j) ∧ ds'.length ≤ j ∧ (0 < j → ds' ≠ [])) ?_ ?_ _ _ _ ⟨0, [], by rw [← hm]; simp [List.range_eq_range'], Nat.zero_le _, rfl, rfl, List.nodup_nil, by simp, by simp, by simp⟩
  · rintro d ds acc μ K hK ⟨j, ds', hd, hj, rfl, rfl, e1, e2, e3, e4⟩
    have hjl : j < sts.length := by
      by_cases h : j < sts.length
      · exact h
      · have : sts.length - j = 0 := by omega
        rw [this] at hd
        cases hd
    have hr : sts.length - j = (sts.length - (j + 1)) + 1 := by omega
    rw [hr, List.range'_succ, List.map_cons, List.cons.injEq] at hd
    obtain ⟨rfl, rfl⟩ := hd
    rw [Int.zero_add]
    have hat : L2.atI (sts.map D.str) (j : Int) = some (.str sts[j]) := by
      have h1 : j < (sts.map D.str).length := by simpa using hjl
      rw [atI_nat h1]
      simp
    have hix : ixD (eStrs sts) (.int (j : Int)) = fun k => k (.str sts[j]) := by
      funext k
      show onS (L2.atI (sts.map D.str) (j : Int)) k = _
      rw [hat]
      rfl
    rw [hix]
    unfold eStrs
    walk_at "d"
    refine ⟨sts, rfl, List.getElem_mem hjl, rfl, ?_⟩
    rw [eqb_ii]
    refine br_i (fun e => ?_) fun e => ?_
    · have e : sts.idxOf sts[j] = j := by
        have := of_decide_eq_true e
        omega
      have hnew : sts[j] ∉ sts.take j := fun h => by
        obtain ⟨i, hi, e'⟩ := List.getElem_of_mem h
        simp at hi
        rw [List.getElem_take] at e'
        have h1 : sts.idxOf sts[j] ≤ i := by
          rw [← e']
          have h2 := List.not_of_lt_findIdx (xs := sts) (p := (· == sts[i])) (i := i)
          by_cases hh : sts.idxOf sts[i] ≤ i
          · exact hh
          · have := h2 (by unfold List.idxOf at hh; omega)
            simp at this
        omega
      refine hK _ _ ⟨j + 1, ds' ++ [sts[j]], rfl, hjl, by simp, rfl, ?_, ?_, by simp; omega, by simp⟩
      · rw [List.nodup_append]
        refine ⟨e1, by simp, fun x hx y hy => ?_⟩
        rw [List.mem_singleton.mp hy]
        exact fun e => hnew (e ▸ e2 x hx)
      · intro z hz
        rw [List.take_succ_eq_append_getElem hjl]
        rcases List.mem_append.mp hz with hz | hz
        · exact List.mem_append_left _ (e2 z hz)
        · exact List.mem_append_right _ hz
    · have e : sts.idxOf sts[j] ≠ j := by
        intro h
        rw [h] at e
        simp at e
      refine hK _ _ ⟨j + 1, ds', rfl, hjl, by simp, rfl, e1, ?_, by omega, fun _ => ?_⟩
      · intro z hz
        rw [List.take_succ_eq_append_getElem hjl]
        exact List.mem_append_left _ (e2 z hz)
      · by_cases hj0 : 0 < j
        · exact e4 hj0
        · exfalso
          have : j = 0 := by omega
          subst this
          apply e
          cases sts with
          | nil => simp at h0
          | cons x xs => simp
  · rintro acc μ ⟨j, ds', hd, hj, rfl, rfl, e1, e2, e3, e4⟩
    have hj2 : j = sts.length := by
      have := congrArg List.length hd
      simp at this
      omega
    subst hj2
    unfold t_l_world_2
    walk_at "d"
    refine world_loop a (sts := ds') (x := none) ok hw hl ⟨e1, fun z hz => hsp z (List.mem_of_mem_take (e2 z hz))⟩ (e4 h0) (by omega) ht hn q
theorem s_world (a : Addr) : ∀ ss n kk, sp_l_world a ss n kk → t_l_world a (ends kk) (rho0 N_l_world ss) ⟨[], n⟩ := by
  rintro ss n kk ⟨ws, m, top, rfl, h1, h2, h3, h4, h5, h6, h7, h8, q⟩
  unfold t_l_world
  walk_at "d"
  refine draw_i (by decide) (by decide) (by omega) fun r n1 r0 r1 m0 m1 => ⟨rfl, br_i (fun _ => ?_) fun _ => ?_⟩
  · refine ⟨m, rfl, by omega, h5, by omega, fun us n2 oku hu m2 m3 => ?_⟩
    refine shuffled_i (by omega) (by omega) fun us' n3 hp m4 m5 => ?_
    refine world_dedup a h1 h2 h3 (fun z hz => oku.2 z (hp.mem_iff.mp hz)) (by rw [hp.length_eq]; exact hu) (fun e => ?_) (by rw [hp.length_eq]; omega) ⟨h6, h7⟩ (by omega) fun w n4 hw m6 m7 => q w n4 hw (by omega) (by omega)
    rw [e] at hp
    have := hp.length_eq
    simp at this
    omega
  · refine ⟨m, rfl, by omega, h5, by omega, fun us n2 oku hu m2 m3 => ?_⟩
    unfold eStrs
    walk_at "d"
    refine ⟨by simp [lim]; omega, ?_⟩
    rw [← List.map_append, cut_to _ (by omega), ← List.map_take]
    have hlen : (((ws ++ us).take m.toNat).length : Int) = m := by simp; omega
    refine shuffled_i (ws := (ws ++ us).take m.toNat) (by omega) (by omega) fun us' n3 hp m4 m5 => ?_
    refine world_dedup a h1 h2 h3 (fun z hz => ?_) (by rw [hp.length_eq]; exact hlen) (fun e => ?_) (by rw [hp.length_eq]; omega) ⟨h6, h7⟩ (by omega) fun w n4 hw m6 m7 => q w n4 hw (by omega) (by omega)
    · rcases List.mem_append.mp (List.mem_of_mem_take (hp.mem_iff.mp hz)) with h | h
      · exact h1.2 z h
      · exact oku.2 z h
    · rw [e] at hp
      have := hp.length_eq
      simp only [List.length_nil] at this
      omega
end DL
/-! ## KS7 -/
namespace DL
open PySem PySem.Spec PyProof.Rows L2
local macro_rules | `(tactic| walk_at "d") => `(tactic| simp only [rSeq, rSet, rRet, rIfS, rFor, rDrop, rNext, rDead, rBrk, rCont, rPur, rPurSet, rVar, rC, rBin, rCh, rAndV, rOrV, rNotV, rAnd, rOr, rNot, rIf, rT, rCB, rCons, rNil, rCall, rIsi, rIsi2, rIsiC, rSl, rNo, rPt, rNeg, rRev, rTup, rLst, rLstH, rDctH, rDct0, rDisp, rDispH, rP0, rP1, rPar, rPar3, rUnp, rAsg, rAug, iIt, iRng, iRng2, iItems, iVals, iZip, gNm, rMut, rPut, rFrz, rLC, rSetLc, rDc, rDcH, rDC, rYes, rStar, rMeth0, rMake, rFldSet, rEqO, rTur, rJoin, rBits, rIndexD, rList_values, rList_items, rFld, rLC2, rIn, wipeR, br_t, br_f, rho0, ends, endsI, q_sel, q_isB, q_isPur, q_isI, q_strD, q_lstD, q_dkD, q_dkS, q_argS0, q_argSc, q_argSp, q_coldS, q_onS, q_noTy_non, q_noTy_bl, q_noTy_int, q_noTy_str, q_noTy_lst, q_noTy_tup, q_noTy_dk, q_noTy_obj, q_addI, q_addS, q_addL, q_addT, q_intD, q_ltI, q_ltS, q_g1, q_g2, q_lenL, q_lenT, q_lenK, q_lenS, q_intOf, q_listL, q_listT, q_listK, q_listS, q_iterL, q_iterT, q_iterK, q_iterS, q_ixL, q_ixT, q_ixS, q_ixK, q_slS, q_slL, q_inL, q_inK, q_inS, q_inV, q_ninV, q_eqD, q_neD, q_rdC, q_rdH, q_hotL, q_hotK, q_setM0, q_setM1, q_nth0, q_nthS, q_colds0, q_colds1, q_keyI, q_keyS, q_app, q_ins, q_gTp, q_gLs, q_gCs, q_gNl, q_frz0, q_frz1, q_thN, q_thC, q_thP, q_thH, q_putS, q_objS, q_fld, q_objP, q_zipL, q_zipT, q_all, q_any, q_kit_NoneType_bool, q_kit_NoneType_int, q_kit_NoneType_str, q_kit_NoneType_list, q_kit_NoneType_tuple, q_kit_NoneType_dict, q_kit_bool_bool, q_kit_bool_int, q_kit_bool_str, q_kit_bool_list, q_kit_bool_tuple, q_kit_bool_dict, q_kit_int_bool, q_kit_int_int, q_kit_int_str, q_kit_int_list, q_kit_int_tuple, q_kit_int_dict, q_kit_str_bool, q_kit_str_int, q_kit_str_str, q_kit_str_list, q_kit_str_tuple, q_kit_str_dict, q_kit_list_bool, q_kit_list_int, q_kit_list_str, q_kit_list_list, q_kit_list_tuple, q_kit_list_dict, q_kit_tuple_bool, q_kit_tuple_int, q_kit_tuple_str, q_kit_tuple_list, q_kit_tuple_tuple, q_kit_tuple_dict, q_kit_dict_bool, q_kit_dict_int, q_kit_dict_str, q_kit_dict_list, q_kit_dict_tuple, q_kit_dict_dict, List.map_cons, List.map_nil, List.length_cons, List.length_nil, List.append_nil, List.cons_append, List.nil_append, List.set_cons_zero, List.set_cons_succ, List.replicate_succ, List.replicate_zero, Nat.reduceSub, Nat.reduceAdd, tyN, List.getD_cons_zero, List.getD_cons_succ, if_true, if_false, true_and, and_true, Nat.zero_add, List.set_nil, Bool.not_true, Bool.not_false])
theorem world_i {a : Addr} {n : Nat} {ws : List Str} {m top : Int} {k : D → Nat → Prop} (ok : OkWs ws) (hne : ws ≠ []) (hl : ws.length ≤ 6) (hm : 1 ≤ m ∧ m ≤ 6) (ht : 1 ≤ top ∧ top ≤ 6) (hn : n + 3000 ≤ BIG) (q : ∀ w n', OkW w → n ≤ n' → n' ≤ n + 3000 → k (eWorld w) n') : sp_l_world a [.pur, .c (.int m), .c (eStrs ws), .c (.int top)] n k :=
  ⟨ws, m, top, rfl, ok, hne, hl, hm.1, hm.2, ht.1, ht.2, hn, q⟩
theorem s_row_of (a : Addr) : ∀ ss n kk, sp_l_row_of a ss n kk → t_l_row_of a (ends kk) (rho0 N_l_row_of ss) ⟨[], n⟩ := by
  rintro ss n kk ⟨rfl, h3, q⟩
  unfold t_l_row_of
  walk_at "d"
  refine ⟨rfl, by omega, fun ws n1 ok hl m0 m1 => ?_⟩
  have hne : ws ≠ [] := fun e => by rw [e] at hl; simp at hl
  unfold t_l_row_of_1
  walk_at "d"
  have e6 : ws.take 6 = ws := List.take_of_length_le (by omega)
  have hcut : cutL (ws.map D.str) none (some 6) = ws.map D.str := by rw [cut_to _ (by decide), ← List.map_take]; exact congrArg _ e6
  have hsl : ∀ k : D → Prop, slD (eStrs ws) none (some 6) k = k (eStrs ws) := fun k => by
    show k (.lst (cutL (ws.map D.str) none (some 6))) = _
    rw [hcut]; rfl
  refine draw_i (by decide) (by decide) (by omega) fun r n2 r0 r1 m2 m3 => ⟨rfl, br_i (fun _ => ?_) fun _ => ?_⟩
  · refine draw_i (by decide) (by decide) (by omega) fun r n3 r0 r1 m4 m5 => ?_
    walk_at "d"
    rw [hsl]
    refine world_i ok hne (by omega) ⟨by omega, by omega⟩ ⟨by decide, by decide⟩ (by omega) fun w n4 hw m6 m7 => ?_
    rw [hsl]
    exact ⟨by decide, q w ws n4 hw ok hne (by omega) (by omega) (by omega)⟩
  · unfold t_l_row_of_2
    walk_at "d"
    unfold eStrs
    walk_at "d"
    refine draw_i (by simp; omega) (by simp; omega) (by omega) fun i n3 i0 i1 m4 m5 => ?_
    simp at i1
    walk_at "d"
    rw [cut_to _ (by omega), ← List.map_take]
    have okt := okws_take ok (1 + i).toNat
    have hl2 : (ws.take (1 + i).toNat).length = (1 + i).toNat := by simp; omega
    generalize ws.take (1 + i).toNat = us at okt hl2
    have hne2 : us ≠ [] := fun e => by rw [e] at hl2; simp at hl2; omega
    unfold t_l_row_of_3
    walk_at "d"
    have last : ∀ n4, n1 ≤ n4 → n4 ≤ n1 + 20 → t_l_row_of_4 a (ends kk) [some .pur, some (.c (.int 6)), some (.c (.lst (ws.map D.str))), some (.c (.lst (us.map D.str)))] ⟨[], n4⟩ := by
      intro n4 m6 m7
      unfold t_l_row_of_4
      walk_at "d"
      refine draw_i (by decide) (by decide) (by omega) fun b n5 b0 b1 m8 m9 => ?_
      walk_at "d"
      exact world_i okt hne2 (by omega) ⟨by omega, by omega⟩ ⟨by decide, by decide⟩ (by omega) fun w n6 hw g6 g7 => ⟨by decide, q w us n6 hw okt hne2 (by omega) (by omega) (by omega)⟩
    refine br_i (fun h4 => ?_) fun _ => last n3 (by omega) (by omega)
    have h4 : 4 ≤ us.length := by
      have := of_decide_eq_true h4
      simp at this
      omega
    refine draw_i (by decide) (by decide) (by omega) fun b n4 b0 b1 m6 m7 => ⟨rfl, br_i (fun _ => ?_) fun _ => last n4 (by omega) (by omega)⟩
    exact ⟨us, rfl, okt, h4, by omega, by omega, fun w n5 hw m8 m9 => ⟨by decide, q w us n5 hw okt hne2 (by omega) (by omega) (by omega)⟩⟩
theorem merge_e {α : Type} {f : α → D} : ∀ (t acc : List (Str × α)), (acc.map (·.1) ++ t.map (·.1)).Nodup → mergeD (eT f acc) (eT f t) = eT f (acc ++ t)
  | [], acc, _ => by simp [mergeD, eT]
  | p :: t, acc, h => by
    have hnew : p.1 ∉ acc.map (·.1) := fun hp => by
      rw [List.nodup_append] at h
      exact h.2.2 p.1 hp p.1 (by simp) rfl
    have e : mergeD (eT f acc) (eT f (p :: t)) = mergeD (putD (eT f acc) (.inr p.1) (f p.2)) (eT f t) := rfl
    rw [e, putD_e, putT_new hnew, merge_e t (acc ++ [p]) (by simpa using h)]
    simp
theorem merge_nil {α : Type} {f : α → D} {t : List (Str × α)} (h : (t.map (·.1)).Nodup) : mergeD [] (eT f t) = eT f t := by
  have := merge_e (f := f) t [] (by simpa using h)
  simpa [eT] using this
theorem m2 {k1 k2 g1 g2 : Str} (h : k1 ≠ k2) : mergeD [] [(.inr k1, .str g1), (.inr k2, .str g2)] = eT D.str [(k1, g1), (k2, g2)] := merge_nil (f := D.str) (t := [(k1, g1), (k2, g2)]) (by simpa using h)
theorem m1 {k1 g1 : Str} : mergeD [] [(.inr k1, .str g1)] = eT D.str [(k1, g1)] := merge_nil (f := D.str) (t := [(k1, g1)]) (by simp)
theorem okrow2 {keys : List Str} {k1 k2 g1 g2 kd : Str} (h : k1 ≠ k2) (s1 : isSpelt k1 = true) (s2 : isSpelt k2 = true) (h1 : g1 ∈ keys) (h2 : g2 ∈ keys) (hk : kd = "says" ∨ kd = "hears") : OkRow keys ⟨kd, [(k1, g1), (k2, g2)]⟩ := by
  refine ⟨?_, ⟨fun e => ?_, fun e => by cases e⟩, by simpa using h, by simp, ?_, ?_⟩
  · show kd ∈ kindS
    rcases hk with rfl | rfl <;> decide +kernel
  · exfalso
    have e : kd = "done" := e
    rcases hk with rfl | rfl <;> revert e <;> decide +kernel
  · intro p hp; simp at hp; rcases hp with rfl | rfl <;> assumption
  · intro p hp; simp at hp; rcases hp with rfl | rfl <;> assumption
theorem okrow1 {keys : List Str} {k1 g1 kd : Str} (s1 : isSpelt k1 = true) (h1 : g1 ∈ keys) (hk : kd = "says" ∨ kd = "hears") : OkRow keys ⟨kd, [(k1, g1)]⟩ := by
  refine ⟨?_, ⟨fun e => ?_, fun e => by cases e⟩, by simp, by simp, ?_, ?_⟩
  · show kd ∈ kindS
    rcases hk with rfl | rfl <;> decide +kernel
  · exfalso
    have e : kd = "done" := e
    rcases hk with rfl | rfl <;> revert e <;> decide +kernel
  · intro p hp; simp at hp; rcases hp with rfl; assumption
  · intro p hp; simp at hp; rcases hp with rfl; assumption
theorem s_shape (a : Addr) : ∀ ss n kk, sp_l_shape a ss n kk → t_l_shape a (ends kk) (rho0 N_l_shape ss) ⟨[], n⟩ := by
  rintro ss n kk ⟨ws, rfl, h1, h2, h3, h4, q⟩
  unfold t_l_shape
  walk_at "d"
  refine draw_i (by decide) (by decide) (by omega) fun r n1 r0 r1 m0 m1 => ⟨4, rfl, by decide, by decide, by omega, fun us n2 ok hl m2' m3 => ?_⟩
  have hl : us.length = 4 := by omega
  match us, hl with
  | [a1, a2, a3, a4], _ =>
  match ws, h2 with
  | w1 :: w2 :: w3 :: w4 :: rest, _ =>
  obtain ⟨nda, spa⟩ := ok
  obtain ⟨ndw, spw⟩ := h1
  simp only [List.nodup_cons, List.mem_cons, not_or, List.not_mem_nil, not_false_eq_true, and_true] at nda ndw
  obtain ⟨⟨a12, a13, a14⟩, ⟨a23, a24⟩, a34, _⟩ := nda
  obtain ⟨⟨w12, w13, w14, _⟩, ⟨w23, w24, _⟩, ⟨w34, _⟩, _⟩ := ndw
  have sa1 := spa a1 (by simp)
  have sa2 := spa a2 (by simp)
  have sa3 := spa a3 (by simp)
  have sa4 := spa a4 (by simp)
  have sw1 := spw w1 (by simp)
  have sw2 := spw w2 (by simp)
  have sw3 := spw w3 (by simp)
  have sw4 := spw w4 (by simp)
  unfold t_l_shape_1 eStrs
  walk_at "d"
  unfold t_l_shape_2
  walk_at "d"
  have hcut : cutL (D.str w1 :: D.str w2 :: D.str w3 :: D.str w4 :: List.map D.str rest) none (some 4) = [.str w1, .str w2, .str w3, .str w4] := by
    rw [cut_to _ (by decide)]; rfl
  rw [hcut]
  walk_at "d"
  unfold t_l_shape_3
  walk_at "d"
  have fin : ∀ (b : Book), (b.map (·.1)).Nodup → b ≠ [] → b.length ≤ 6 → (∀ p ∈ b, isSpelt p.1 = true ∧ OkRow (b.map (·.1)) p.2) → a1 ∈ b.map (·.1) → kk (.lst [.dk (eT eRow b), .str a1]) n2 := fun b b1 b2 b3 b4 b5 =>
    q ⟨b, a1⟩ n2 ⟨⟨b2, b1, b3, fun p hp => (b4 p hp).1, fun p hp => (b4 p hp).2⟩, b5⟩ (by omega) (by omega)
  refine ⟨rfl, br_i (fun _ => ⟨by decide, by decide, by decide, by decide, by decide, ?_⟩) fun _ => ?_⟩
  · rw [m2 w12]
    have nd : (([(a1, ⟨"says", [(w1, a1), (w2, a2)]⟩), (a2, ⟨"done", []⟩)] : Book).map (·.1)).Nodup := by simpa using a12
    show kk (.lst [.dk (mergeD [] (eT eRow [(a1, ⟨"says", [(w1, a1), (w2, a2)]⟩), (a2, ⟨"done", []⟩)])), .str a1]) n2
    rw [merge_nil nd]
    refine fin _ nd (by simp) (by simp) (fun p hp => ?_) (by simp)
    simp only [List.mem_cons, List.not_mem_nil, or_false] at hp
    rcases hp with rfl | rfl
    · exact ⟨sa1, okrow2 w12 sw1 sw2 (by simp) (by simp) (.inl rfl)⟩
    · exact ⟨sa2, okrow_done _⟩
  unfold t_l_shape_4
  walk_at "d"
  refine ⟨rfl, br_i (fun _ => ⟨by decide, by decide, by decide, by decide, by decide, by decide, by decide, ?_⟩) fun _ => ?_⟩
  · rw [m2 w12, m2 w34]
    have nd : (([(a1, ⟨"says", [(w1, a2), (w2, a3)]⟩), (a2, ⟨"says", [(w3, a1), (w4, a3)]⟩), (a3, ⟨"done", []⟩)] : Book).map (·.1)).Nodup := by simp [a12, a13, a23]
    show kk (.lst [.dk (mergeD [] (eT eRow [(a1, ⟨"says", [(w1, a2), (w2, a3)]⟩), (a2, ⟨"says", [(w3, a1), (w4, a3)]⟩), (a3, ⟨"done", []⟩)])), .str a1]) n2
    rw [merge_nil nd]
    refine fin _ nd (by simp) (by simp) (fun p hp => ?_) (by simp)
    simp only [List.mem_cons, List.not_mem_nil, or_false] at hp
    rcases hp with rfl | rfl | rfl
    · exact ⟨sa1, okrow2 w12 sw1 sw2 (by simp) (by simp) (.inl rfl)⟩
    · exact ⟨sa2, okrow2 w34 sw3 sw4 (by simp) (by simp) (.inl rfl)⟩
    · exact ⟨sa3, okrow_done _⟩
  unfold t_l_shape_5
  walk_at "d"
  refine ⟨by decide, by decide, by decide, by decide, by decide, by decide, ?_⟩
  rw [m2 w12, m2 w34]
  have nd : (([(a1, ⟨"hears", [(w1, a2), (w2, a3)]⟩), (a2, ⟨"says", [(w3, a1), (w4, a4)]⟩), (a4, ⟨"done", []⟩)] : Book).map (·.1)).Nodup := by simp [a12, a14, a24]
  have em := merge_nil (f := eRow) nd
  generalize hb : ([(a1, ⟨"hears", [(w1, a2), (w2, a3)]⟩), (a2, ⟨"says", [(w3, a1), (w4, a4)]⟩), (a4, ⟨"done", []⟩)] : Book) = b at nd em
  have em2 : mergeD [] [(Sum.inr a1, D.tup [D.str (Str.ofString "hears"), D.dk (eT D.str [(w1, a2), (w2, a3)])]), (Sum.inr a2, D.tup [D.str (Str.ofString "says"), D.dk (eT D.str [(w3, a1), (w4, a4)])]), (Sum.inr a4, D.tup [D.str (Str.ofString "done"), D.dk []])] = eT eRow b := by
    rw [← em, ← hb]; rfl
  rw [em2]
  have hbl : (eT eRow b).length < lim := by rw [← hb]; show 3 < lim; decide
  have hnew : a3 ∉ b.map (·.1) := by rw [← hb]; simp [Ne.symm a13, Ne.symm a23, a34, a13, a23]
  have fin2 : ∀ row : Row, OkRow ((b ++ [(a3, row)]).map (·.1)) row → kk (.lst [.dk (putD (eT eRow b) (.inr a3) (eRow row)), .str a1]) n2 := fun row hrow => by
    rw [putD_e, putT_new hnew]
    have hk : (b ++ [(a3, row)]).map (·.1) = [a1, a2, a4, a3] := by rw [← hb]; rfl
    refine fin _ ?_ (by simp) (by rw [← hb]; simp) (fun p hp => ?_) (by rw [hk]; simp)
    · rw [hk]; simp [a12, a13, a14, a23, a24]; exact fun e => a34 e.symm
    · rw [hk] at hrow ⊢
      rcases List.mem_append.mp hp with hp | hp
      · rw [← hb] at hp
        simp only [List.mem_cons, List.not_mem_nil, or_false] at hp
        rcases hp with rfl | rfl | rfl
        · exact ⟨sa1, okrow2 w12 sw1 sw2 (by simp) (by simp) (.inr rfl)⟩
        · exact ⟨sa2, okrow2 w34 sw3 sw4 (by simp) (by simp) (.inl rfl)⟩
        · exact ⟨sa4, okrow_done _⟩
      · rw [List.mem_singleton.mp hp]
        exact ⟨sa3, hrow⟩
  have last : ∀ (row : Row) (σ : Rho), OkRow ((b ++ [(a3, row)]).map (·.1)) row → σ = [some .pur, some (.c (.lst (.str w1 :: .str w2 :: .str w3 :: .str w4 :: rest.map D.str))), some (.c (.int r)), some (.c (.lst [.str a1, .str a2, .str a3, .str a4])), some (.c (.str a1)), some (.c (.str a2)), some (.c (.str a3)), some (.c (.str a4)),
      some (.c (.str w1)), some (.c (.str w2)), some (.c (.str w3)), some (.c (.str w4)), some (.hot 0)] → t_l_shape_7 a { nx := fun x μ => kk D.non μ.n, rt := kk } σ ⟨[.dk (putD (eT eRow b) (.inr a3) (eRow row))], n2⟩ := by
    rintro row σ hrow rfl
    unfold t_l_shape_7
    walk_at "d"
    exact ⟨by decide, fin2 row hrow⟩
  have hk : ∀ row : Row, (b ++ [(a3, row)]).map (·.1) = [a1, a2, a4, a3] := fun row => by rw [← hb]; rfl
  unfold t_l_shape_6
  walk_at "d"
  rw [m2 w34, DL.m1]
  refine ⟨rfl, br_i (fun _ => ⟨by decide, by decide, hbl, ?_⟩) fun _ => ⟨by decide, by decide, hbl, ?_⟩⟩
  · exact last ⟨"says", [(w3, a1), (w4, a4)]⟩ _ (by rw [hk]; exact okrow2 w34 sw3 sw4 (by simp) (by simp) (.inl rfl)) rfl
  · exact last ⟨"says", [(w3, a3)]⟩ _ (by rw [hk]; exact okrow1 sw3 (by simp) (.inl rfl)) rfl
end DL
/-! ## KS8 -/
namespace DL
open PySem PySem.Spec PyProof.Rows L2
local macro_rules | `(tactic| walk_at "d") => `(tactic| simp only [rSeq, rSet, rRet, rIfS, rFor, rDrop, rNext, rDead, rBrk, rCont, rPur, rPurSet, rVar, rC, rBin, rCh, rAndV, rOrV, rNotV, rAnd, rOr, rNot, rIf, rT, rCB, rCons, rNil, rCall, rIsi, rIsi2, rIsiC, rSl, rNo, rPt, rNeg, rRev, rTup, rLst, rLstH, rDctH, rDct0, rDisp, rDispH, rP0, rP1, rPar, rPar3, rUnp, rAsg, rAug, iIt, iRng, iRng2, iItems, iVals, iZip, gNm, rMut, rPut, rFrz, rLC, rSetLc, rDc, rDcH, rDC, rYes, rStar, rMeth0, rMake, rFldSet, rEqO, rTur, rJoin, rBits, rIndexD, rList_values, rList_items, rFld, rLC2, rIn, wipeR, br_t, br_f, rho0, ends, endsI, q_sel, q_isB, q_isPur, q_isI, q_strD, q_lstD, q_dkD, q_dkS, q_argS0, q_argSc, q_argSp, q_coldS, q_onS, q_noTy_non, q_noTy_bl, q_noTy_int, q_noTy_str, q_noTy_lst, q_noTy_tup, q_noTy_dk, q_noTy_obj, q_addI, q_addS, q_addL, q_addT, q_intD, q_ltI, q_ltS, q_g1, q_g2, q_lenL, q_lenT, q_lenK, q_lenS, q_intOf, q_listL, q_listT, q_listK, q_listS, q_iterL, q_iterT, q_iterK, q_iterS, q_ixL, q_ixT, q_ixS, q_ixK, q_slS, q_slL, q_inL, q_inK, q_inS, q_inV, q_ninV, q_eqD, q_neD, q_rdC, q_rdH, q_hotL, q_hotK, q_setM0, q_setM1, q_nth0, q_nthS, q_colds0, q_colds1, q_keyI, q_keyS, q_app, q_ins, q_gTp, q_gLs, q_gCs, q_gNl, q_frz0, q_frz1, q_thN, q_thC, q_thP, q_thH, q_putS, q_objS, q_fld, q_objP, q_zipL, q_zipT, q_all, q_any, q_kit_NoneType_bool, q_kit_NoneType_int, q_kit_NoneType_str, q_kit_NoneType_list, q_kit_NoneType_tuple, q_kit_NoneType_dict, q_kit_bool_bool, q_kit_bool_int, q_kit_bool_str, q_kit_bool_list, q_kit_bool_tuple, q_kit_bool_dict, q_kit_int_bool, q_kit_int_int, q_kit_int_str, q_kit_int_list, q_kit_int_tuple, q_kit_int_dict, q_kit_str_bool, q_kit_str_int, q_kit_str_str, q_kit_str_list, q_kit_str_tuple, q_kit_str_dict, q_kit_list_bool, q_kit_list_int, q_kit_list_str, q_kit_list_list, q_kit_list_tuple, q_kit_list_dict, q_kit_tuple_bool, q_kit_tuple_int, q_kit_tuple_str, q_kit_tuple_list, q_kit_tuple_tuple, q_kit_tuple_dict, q_kit_dict_bool, q_kit_dict_int, q_kit_dict_str, q_kit_dict_list, q_kit_dict_tuple, q_kit_dict_dict, List.map_cons, List.map_nil, List.length_cons, List.length_nil, List.append_nil, List.cons_append, List.nil_append, List.set_cons_zero, List.set_cons_succ, List.replicate_succ, List.replicate_zero, Nat.reduceSub, Nat.reduceAdd, tyN, List.getD_cons_zero, List.getD_cons_succ, if_true, if_false, true_and, and_true, Nat.zero_add, List.set_nil, Bool.not_true, Bool.not_false])
/-! ### equal data are equal -/
theorem find_self {α : Type} : ∀ {bs : List (Key × α)}, (bs.map (·.1)).Nodup → ∀ p ∈ bs, bs.find? (fun q => decide (q.1 = p.1)) = some p
  | [], _, p, h => by cases h
  | q :: bs, nd, p, h => by
    rw [List.map_cons, List.nodup_cons] at nd
    rw [List.find?_cons]
    rcases List.mem_cons.mp h with rfl | h
    · simp
    · have : ¬ q.1 = p.1 := fun e => nd.1 (e ▸ List.mem_map_of_mem h)
      simp only [this, decide_false]
      exact find_self nd.2 p h
mutual
theorem eqb_self : ∀ d : D, eqOk d = true → eqb d d = true
  | .non, _ => by simp only [eqb]
  | .bl b, _ => by simp [eqb]
  | .int b, _ => by simp [eqb]
  | .str b, _ => by simp [eqb]
  | .lst ds, h => by simp only [eqOk] at h; simp only [eqb]; exact eqbs_self ds h
  | .tup ds, h => by simp only [eqOk] at h; simp only [eqb]; exact eqbs_self ds h
  | .dk ds, h => by
    simp only [eqOk, Bool.and_eq_true, decide_eq_true_eq] at h
    simp only [eqb, Bool.and_eq_true, beq_self_eq_true, true_and]
    exact eqbk_self ds ds h.1 (find_self h.2)
  | .ty _, h => by simp [eqOk] at h
  | .adr _, h => by simp [eqOk] at h
  | .dt _, h => by simp [eqOk] at h
  | .obj _ _, h => by simp [eqOk] at h
theorem eqbs_self : ∀ ds : List D, eqOks ds = true → eqbs ds ds = true
  | [], _ => by simp only [eqbs]
  | d :: ds, h => by
    simp only [eqOks, Bool.and_eq_true] at h
    simp only [eqbs, Bool.and_eq_true]
    exact ⟨eqb_self d h.1, eqbs_self ds h.2⟩
theorem eqbk_self : ∀ (ds bs : List (Key × D)), eqOkk ds = true → (∀ p ∈ ds, bs.find? (fun q => decide (q.1 = p.1)) = some p) → eqbk ds bs = true
  | [], _, _, _ => by simp only [eqbk]
  | (k, d) :: ds, bs, h, hf => by
    simp only [eqOkk, Bool.and_eq_true] at h
    have h1 := hf (k, d) (by simp)
    simp only at h1
    simp only [eqbk, h1, Bool.and_eq_true]
    exact ⟨eqb_self d h.1, eqbk_self ds bs h.2 fun p hp => hf p (by simp [hp])⟩
end
mutual
theorem agr_refl : ∀ d : D, eqOk d = true → agr d d = true
  | .non, _ => by simp [agr, seqD]
  | .bl b, _ => by simp [agr, seqD]
  | .int b, _ => by simp [agr, seqD]
  | .str b, _ => by simp [agr, seqD]
  | .lst ds, h => by simp only [eqOk] at h; simp only [agr]; exact agrs_refl ds h
  | .tup ds, h => by simp only [eqOk] at h; simp only [agr]; exact agrs_refl ds h
  | .dk ds, h => by
    simp only [eqOk, Bool.and_eq_true, decide_eq_true_eq] at h
    simp only [agr]
    exact agrk_refl ds ds h.1 (find_self h.2)
  | .ty _, h => by simp [eqOk] at h
  | .adr _, h => by simp [eqOk] at h
  | .dt _, h => by simp [eqOk] at h
  | .obj _ _, h => by simp [eqOk] at h
theorem agrs_refl : ∀ ds : List D, eqOks ds = true → agrs ds ds = true
  | [], _ => by simp only [agrs]
  | d :: ds, h => by
    simp only [eqOks, Bool.and_eq_true] at h
    simp only [agrs, Bool.and_eq_true]
    exact ⟨agr_refl d h.1, agrs_refl ds h.2⟩
theorem agrk_refl : ∀ (ds bs : List (Key × D)), eqOkk ds = true → (∀ p ∈ ds, bs.find? (fun q => decide (q.1 = p.1)) = some p) → agrk ds bs = true
  | [], _, _, _ => by simp only [agrk]
  | (k, d) :: ds, bs, h, hf => by
    simp only [eqOkk, Bool.and_eq_true] at h
    have h1 := hf (k, d) (by simp)
    simp only at h1
    simp only [agrk, h1, Bool.and_eq_true]
    exact ⟨agr_refl d h.1, agrk_refl ds bs h.2 fun p hp => hf p (by simp [hp])⟩
end
theorem cmp_refl {d : D} (h : eqOk d = true) (hd : dep d ≤ 60) : cmpOk d d = true ∧ eqb d d = true := by
  refine ⟨?_, eqb_self d h⟩
  unfold cmpOk
  rw [h, agr_refl d h]
  simpa using hd
theorem eT_keys {α : Type} {f : α → D} (t : List (Str × α)) : (eT f t).map (·.1) = (t.map (·.1)).map (Sum.inr : Str → Key) := by
  unfold eT; rw [List.map_map, List.map_map]; rfl
theorem eT_ok {α : Type} {f : α → D} : ∀ t : List (Str × α), (∀ p ∈ t, eqOk (f p.2) = true) → eqOkk (eT f t) = true
  | [], _ => by simp [eT, eqOkk]
  | p :: t, h => by
    have ih := eT_ok (f := f) t fun q hq => h q (by simp [hq])
    unfold eT at ih ⊢
    simp only [List.map_cons, eqOkk, Bool.and_eq_true]
    exact ⟨h p (by simp), ih⟩
theorem nodup_inr : ∀ {ks : List Str}, ks.Nodup → (ks.map (Sum.inr : Str → Key)).Nodup
  | [], _ => by simp
  | k :: ks, h => by
    rw [List.nodup_cons] at h
    rw [List.map_cons, List.nodup_cons]
    refine ⟨fun hm => ?_, nodup_inr h.2⟩
    obtain ⟨x, hx, e⟩ := List.mem_map.mp hm
    cases e
    exact h.1 hx
theorem dk_ok {α : Type} {f : α → D} {t : List (Str × α)} (h : ∀ p ∈ t, eqOk (f p.2) = true) (nd : (t.map (·.1)).Nodup) : eqOk (.dk (eT f t)) = true := by
  simp only [eqOk, Bool.and_eq_true, decide_eq_true_eq]
  exact ⟨eT_ok t h, by rw [eT_keys]; exact nodup_inr nd⟩
theorem eT_dep {α : Type} {f : α → D} {m : Nat} : ∀ t : List (Str × α), (∀ p ∈ t, dep (f p.2) ≤ m) → depk (eT f t) ≤ m
  | [], _ => by simp [eT, depk]
  | p :: t, h => by
    have ih := eT_dep (f := f) t fun q hq => h q (by simp [hq])
    have h1 := h p (by simp)
    unfold eT at ih ⊢
    simp only [List.map_cons, depk]
    omega
theorem turns_ok {t : List (Str × Str)} (nd : (t.map (·.1)).Nodup) : eqOk (eTurns t) = true ∧ dep (eTurns t) ≤ 1 := by
  refine ⟨dk_ok (f := D.str) (fun p _ => rfl) nd, ?_⟩
  have := eT_dep (f := D.str) (m := 0) t fun p _ => by simp [dep]
  show depk (eT D.str t) + 1 ≤ 1
  omega
theorem row_ok {r : Row} (nd : (r.turns.map (·.1)).Nodup) : eqOk (eRow r) = true ∧ dep (eRow r) ≤ 2 := by
  obtain ⟨h1, h2⟩ := turns_ok nd
  unfold eRow
  refine ⟨by simp only [eqOk, eqOks, h1, Bool.and_self, Bool.true_and], ?_⟩
  simp only [dep, deps]
  omega
theorem book_ok {b : Book} (nd : (b.map (·.1)).Nodup) (h : ∀ p ∈ b, (p.2.turns.map (·.1)).Nodup) : eqOk (eBook b) = true ∧ dep (eBook b) ≤ 3 := by
  refine ⟨dk_ok (f := eRow) (fun p hp => (row_ok (h p hp)).1) nd, ?_⟩
  have := eT_dep (f := eRow) (m := 2) b fun p hp => (row_ok (h p hp)).2
  show depk (eT eRow b) + 1 ≤ 3
  omega
/-! ### looking up -/
theorem lk_rows {x y : D} : List.lookup (Str.ofString "rows") [(Str.ofString "rows", x), (Str.ofString "first", y)] = some x := by
  rw [List.lookup_cons, show (Str.ofString "rows" == Str.ofString "rows") = true by decide +kernel]
theorem lk_first {x y : D} : List.lookup (Str.ofString "first") [(Str.ofString "rows", x), (Str.ofString "first", y)] = some y := by
  rw [List.lookup_cons, show (Str.ofString "first" == Str.ofString "rows") = false by decide +kernel, List.lookup_cons, show (Str.ofString "first" == Str.ofString "first") = true by decide +kernel]
theorem getT_mem {α : Type} [Inhabited α] : ∀ {t : List (Str × α)} {k : Str}, k ∈ t.map (·.1) → (k, getT t k) ∈ t ∧ t.find? (fun p => decide (p.1 = k)) = some (k, getT t k)
  | [], k, h => by cases h
  | p :: t, k, h => by
    unfold getT
    rw [List.find?_cons]
    by_cases e : p.1 = k
    · subst e
      simp
    · have h' : k ∈ t.map (·.1) := by
        rcases List.mem_cons.mp h with h | h
        · exact absurd h.symm e
        · exact h
      obtain ⟨h1, h2⟩ := getT_mem h'
      simp only [e, decide_false]
      unfold getT at h1 h2
      rw [h2]
      rw [h2] at h1
      exact ⟨List.mem_cons_of_mem _ h1, rfl⟩
theorem find_getT {α : Type} [Inhabited α] : ∀ {t : List (Str × α)} {p : Str × α}, (t.map (·.1)).Nodup → p ∈ t → getT t p.1 = p.2
  | [], _, _, h => by cases h
  | q :: t, p, nd, h => by
    rw [List.map_cons, List.nodup_cons] at nd
    unfold getT
    rw [List.find?_cons]
    rcases List.mem_cons.mp h with rfl | h
    · simp
    · have : ¬ q.1 = p.1 := fun e => nd.1 (e ▸ List.mem_map_of_mem h)
      simp only [this, decide_false]
      exact find_getT nd.2 h
theorem find_e {α : Type} {f : α → D} (k : Str) : ∀ t : List (Str × α), (eT f t).find? (fun p => decide (p.1 = (.inr k : Key))) = (t.find? fun p => decide (p.1 = k)).map fun p => (.inr p.1, f p.2)
  | [] => rfl
  | p :: t => by
    have ih := find_e (f := f) k t
    unfold eT at ih ⊢
    rw [List.map_cons, List.find?_cons, List.find?_cons]
    by_cases e : p.1 = k
    · simp [e]
    · simp only [Sum.inr.injEq, e, decide_false]; exact ih
theorem getK_e {α : Type} [Inhabited α] {f : α → D} {t : List (Str × α)} {k : Str} (h : k ∈ t.map (·.1)) : getK (eT f t) (.inr k) = some (f (getT t k)) := by
  unfold getK
  rw [find_e, (getT_mem h).2]
  rfl
theorem hasK_e {α : Type} {f : α → D} (t : List (Str × α)) (k : Str) : hasK (eT f t) (.inr k) = decide (k ∈ t.map (·.1)) := by
  unfold hasK
  rw [find_e, Option.isSome_map, Bool.eq_iff_iff]
  simp only [List.find?_isSome, decide_eq_true_eq, List.mem_map]
/-- a dict comprehension over given keys -/
theorem runA_keys {α : Type} {f : α → D} {body : D → List (Key × D) → Mu → KvK → Prop} {μ : Mu} {kk : KvK} (g : Str → α) : ∀ (ks : List Str) (acc : List (Str × α)), (acc.map (·.1) ++ ks).Nodup → (∀ k ∈ ks, ∀ (acc : List (Key × D)) (K : KvK), K (putD acc (.inr k) (f (g k))) μ → body (.str k) acc μ K) →
    kk (eT f (acc ++ ks.map fun k => (k, g k))) μ → runA body (ks.map D.str) (eT f acc) μ kk
  | [], acc, _, _, h => by simpa [runA] using h
  | k :: ks, acc, nd, hb, h => by
    rw [List.map_cons]
    refine hb k (by simp) _ _ ?_
    have hnew : k ∉ acc.map (·.1) := fun hp => by
      rw [List.nodup_append] at nd
      exact nd.2.2 k hp k (by simp) rfl
    show runA body (ks.map D.str) (putD (eT f acc) (.inr k) (f (g k))) μ kk
    rw [putD_e, putT_new hnew]
    refine runA_keys g ks (acc ++ [(k, g k)]) (by simpa using nd) (fun k' hk' => hb k' (by simp [hk'])) ?_
    simpa using h
theorem sort_nd {ks : List Str} (h : ks.Nodup) : (sortS ks).Nodup := (List.mergeSort_perm ks _).nodup_iff.mpr h
theorem sort_mem {ks : List Str} {k : Str} : k ∈ sortS ks ↔ k ∈ ks := (List.mergeSort_perm ks _).mem_iff
theorem e_turns (t : List (Str × Str)) : eTurns t = .dk (eT D.str t) := rfl
theorem e_book (b : Book) : eBook b = .dk (eT eRow b) := rfl
theorem sort_e {α : Type} {f : α → D} {t : List (Str × α)} {k : D → Prop} (hl : t.length < 64) (h : k (.lst ((sortS (t.map (·.1))).map D.str))) : sortD2 (.dk (eT f t)) k :=
  .inl ⟨t.map (·.1), by rw [eT_keys], by simpa using hl, h⟩
theorem w_copied (a : Addr) : ∀ ss n kk, sp_copied a ss n kk → t_copied a (ends kk) (rho0 N_copied ss) ⟨[], n⟩ := by
  rintro ss n kk ⟨keys, r, rfl, ok, q⟩
  have hlen := ok.len
  unfold t_copied eRow
  walk_at "d"
  rw [e_turns]
  refine sort_e (by omega) ?_
  walk_at "d"
  refine ⟨by simp [sortS, lim]; omega, ?_⟩
  refine runA_keys (f := D.str) (fun k => getT r.turns k) (sortS (r.turns.map (·.1))) [] (by simpa using sort_nd ok.nd) (fun k hk acc K hK => ?_) ?_
  · unfold dcB
    walk_at "d"
    rw [getK_e (f := D.str) (sort_mem.mp hk)]
    exact hK
  · exact ⟨by decide, q⟩
theorem w_init (a : Addr) : ∀ ss n kk, spI_Desk a ss n kk → t_Desk___init__ a (endsI a kk) (rho0 N_Desk___init__ (.hot 0 :: ss)) ⟨[.obj a []], n⟩ := by
  rintro ss n kk ⟨b, f, rfl, ok, hf, q⟩
  have hlen := ok.len
  unfold t_Desk___init__
  walk_at "d"
  refine ⟨b, rfl, ok, ?_⟩
  walk_at "d"
  obtain ⟨p, hp, rfl⟩ := List.mem_map.mp hf
  have hsp := ok.word p hp
  refine ⟨p.1, rfl, ?_, ?_⟩
  · have := (spelt_iff.mp hsp).1
    have h2 : p.1.length = p.1.cps.toList.length := by simp [Str.length]
    simp [lim]; omega
  rw [hsp, e_book]
  walk_at "d"
  rw [hasK_e, decide_eq_true hf]
  walk_at "d"
  refine sort_e (by omega) ?_
  walk_at "d"
  refine ⟨by simp [sortS, lim]; omega, ?_⟩
  refine runA_keys (f := eRow) (fun k => ordR (getT b k)) (sortS (b.map (·.1))) [] (by simpa using sort_nd ok.nd) (fun k hk acc K hK => ?_) ?_
  · unfold dcB
    walk_at "d"
    rw [getK_e (f := eRow) (sort_mem.mp hk)]
    walk_at "d"
    have hm := (getT_mem (sort_mem.mp hk)).1
    exact ⟨_, _, rfl, ok.row _ hm, hK⟩
  · refine ⟨[], rfl, by decide, _, rfl, by simp [putFD], _, rfl, ?_⟩
    have e1 : ¬ (Str.ofString "rows" = Str.ofString "first") := by decide +kernel
    simp only [putFD, if_neg e1]
    exact q
theorem w_Desk_book (a : Addr) : ∀ ss n kk, sp_Desk_book a ss n kk → t_Desk_book a (ends kk) (rho0 N_Desk_book ss) ⟨[], n⟩ := by
  rintro ss n kk ⟨b, f, rfl, ok, q⟩
  have hlen := ok.len
  unfold t_Desk_book eDesk
  walk_at "d"
  rw [lk_rows]
  walk_at "d"
  rw [e_book]
  walk_at "d"
  rw [keys_e]
  refine ⟨by simp [lim]; omega, ?_⟩
  refine runA_keys (f := eRow) (fun k => ordR (getT b k)) (b.map (·.1)) [] (by simpa using ok.nd) (fun k hk acc K hK => ?_) ?_
  · unfold dcB
    walk_at "d"
    rw [lk_rows]
    walk_at "d"
    rw [getK_e (f := eRow) hk]
    walk_at "d"
    exact ⟨_, _, rfl, ok.row _ (getT_mem hk).1, hK⟩
  · have e : (b.map (·.1)).map (fun k => (k, ordR (getT b k))) = b.map fun p => (p.1, ordR p.2) := by
      rw [List.map_map]
      refine List.map_congr_left fun p hp => ?_
      have := find_getT ok.nd hp
      simp only [Function.comp, this]
    simp only [List.nil_append]
    rw [e]
    exact q
theorem w_Desk_start (a : Addr) : ∀ ss n kk, sp_Desk_start a ss n kk → t_Desk_start a (ends kk) (rho0 N_Desk_start ss) ⟨[], n⟩ := by
  rintro ss n kk ⟨b, f, rfl, q⟩
  unfold t_Desk_start eDesk
  walk_at "d"
  rw [lk_first]
  walk_at "d"
  exact q
theorem isC_desk {a : Addr} {fs : List (Str × D)} : isC a (.obj a fs) = some true := by simp [isC]
theorem w_check_desk (a : Addr) : ∀ ss n kk, sp_check_desk a ss n kk → t_check_desk a (ends kk) (rho0 N_check_desk ss) ⟨[], n⟩ := by
  rintro ss n kk ⟨b, f, rfl, q⟩
  unfold t_check_desk eDesk
  walk_at "d"
  rw [isC_desk]
  walk_at "d"
  exact q
theorem w_Desk_eq (a : Addr) : ∀ ss n kk, sp_Desk___eq__ a ss n kk → t_Desk___eq__ a (ends kk) (rho0 N_Desk___eq__ ss) ⟨[], n⟩ := by
  rintro ss n kk ⟨b, f, rfl, ok, q⟩
  unfold t_Desk___eq__ eDesk
  walk_at "d"
  rw [isC_desk, lk_rows, lk_first]
  walk_at "d"
  obtain ⟨h1, h2⟩ := book_ok ok.nd fun p hp => (ok.row p hp).nd
  obtain ⟨c1, c2⟩ := cmp_refl h1 (by omega)
  rw [c1, c2]
  walk_at "d"
  exact ⟨rfl, by rw [eqb_self _ rfl]; exact q⟩
end DL
/-! ## KS9 -/
namespace DL
open PySem PySem.Spec PyProof.Rows L2
local macro_rules | `(tactic| walk_at "d") => `(tactic| simp only [rSeq, rSet, rRet, rIfS, rFor, rDrop, rNext, rDead, rBrk, rCont, rPur, rPurSet, rVar, rC, rBin, rCh, rAndV, rOrV, rNotV, rAnd, rOr, rNot, rIf, rT, rCB, rCons, rNil, rCall, rIsi, rIsi2, rIsiC, rSl, rNo, rPt, rNeg, rRev, rTup, rLst, rLstH, rDctH, rDct0, rDisp, rDispH, rP0, rP1, rPar, rPar3, rUnp, rAsg, rAug, iIt, iRng, iRng2, iItems, iVals, iZip, gNm, rMut, rPut, rFrz, rLC, rSetLc, rDc, rDcH, rDC, rYes, rStar, rMeth0, rMake, rFldSet, rEqO, rTur, rJoin, rBits, rIndexD, rList_values, rList_items, rFld, rLC2, rIn, wipeR, br_t, br_f, rho0, ends, endsI, q_sel, q_isB, q_isPur, q_isI, q_strD, q_lstD, q_dkD, q_dkS, q_argS0, q_argSc, q_argSp, q_coldS, q_onS, q_noTy_non, q_noTy_bl, q_noTy_int, q_noTy_str, q_noTy_lst, q_noTy_tup, q_noTy_dk, q_noTy_obj, q_addI, q_addS, q_addL, q_addT, q_intD, q_ltI, q_ltS, q_g1, q_g2, q_lenL, q_lenT, q_lenK, q_lenS, q_intOf, q_listL, q_listT, q_listK, q_listS, q_iterL, q_iterT, q_iterK, q_iterS, q_ixL, q_ixT, q_ixS, q_ixK, q_slS, q_slL, q_inL, q_inK, q_inS, q_inV, q_ninV, q_eqD, q_neD, q_rdC, q_rdH, q_hotL, q_hotK, q_setM0, q_setM1, q_nth0, q_nthS, q_colds0, q_colds1, q_keyI, q_keyS, q_app, q_ins, q_gTp, q_gLs, q_gCs, q_gNl, q_frz0, q_frz1, q_thN, q_thC, q_thP, q_thH, q_putS, q_objS, q_fld, q_objP, q_zipL, q_zipT, q_all, q_any, q_kit_NoneType_bool, q_kit_NoneType_int, q_kit_NoneType_str, q_kit_NoneType_list, q_kit_NoneType_tuple, q_kit_NoneType_dict, q_kit_bool_bool, q_kit_bool_int, q_kit_bool_str, q_kit_bool_list, q_kit_bool_tuple, q_kit_bool_dict, q_kit_int_bool, q_kit_int_int, q_kit_int_str, q_kit_int_list, q_kit_int_tuple, q_kit_int_dict, q_kit_str_bool, q_kit_str_int, q_kit_str_str, q_kit_str_list, q_kit_str_tuple, q_kit_str_dict, q_kit_list_bool, q_kit_list_int, q_kit_list_str, q_kit_list_list, q_kit_list_tuple, q_kit_list_dict, q_kit_tuple_bool, q_kit_tuple_int, q_kit_tuple_str, q_kit_tuple_list, q_kit_tuple_tuple, q_kit_tuple_dict, q_kit_dict_bool, q_kit_dict_int, q_kit_dict_str, q_kit_dict_list, q_kit_dict_tuple, q_kit_dict_dict, List.map_cons, List.map_nil, List.length_cons, List.length_nil, List.append_nil, List.cons_append, List.nil_append, List.set_cons_zero, List.set_cons_succ, List.replicate_succ, List.replicate_zero, Nat.reduceSub, Nat.reduceAdd, tyN, List.getD_cons_zero, List.getD_cons_succ, if_true, if_false, true_and, and_true, Nat.zero_add, List.set_nil, Bool.not_true, Bool.not_false])
theorem atI_one {α : Type} {x y : α} {l : List α} : L2.atI (x :: y :: l) 1 = some y := by
  have := atI_nat (xs := x :: y :: l) (i := 1) (by simp)
  simpa using this
theorem all_const (n : Nat) : ∀ l : List D, (l.map fun _ => true).all (fun b => b) = true := fun l => by
  induction l with
  | nil => rfl
  | cons _ _ ih => simp
/-- all of them are true -/
theorem runC_true {body : D → (Option D → Mu → Prop) → Mu → Prop} {μ : Mu} {P : Bool → Prop} (ds : List D) (hb : ∀ d ∈ ds, ∀ K : Option D → Mu → Prop, K (some (.bl true)) μ → body d K μ) (h : P true) :
    runC body ds [] μ fun acc μ' => ∃ bs : List Bool, acc = bs.map D.bl ∧ (μ' = μ → P (bs.all fun b => b)) := by
  refine runC_pure (fun _ => some (.bl true)) ds [] hb ⟨ds.map fun _ => true, ?_, fun _ => by rw [all_const 0]; exact h⟩
  rw [List.nil_append, List.map_map]
  induction ds with
  | nil => rfl
  | cons d ds ih => simp [ih]
theorem runC_true' {body : D → (Option D → Mu → Prop) → Mu → Prop} {μ : Mu} {k : Bool → Mu → Prop} (ds : List D) (hb : ∀ d ∈ ds, ∀ K : Option D → Mu → Prop, K (some (.bl true)) μ → body d K μ) (h : k true μ) :
    runC body ds [] μ fun acc μ' => ∃ bs : List Bool, acc = bs.map D.bl ∧ k (bs.all fun b => b) μ' := by
  refine runC_pure (fun _ => some (.bl true)) ds [] hb ⟨ds.map fun _ => true, ?_, by rw [all_const 0]; exact h⟩
  rw [List.nil_append, List.map_map]
  clear hb
  induction ds with
  | nil => rfl
  | cons d ds ih => simp [ih]
theorem runC_trueG {body : D → (Option D → Mu → Prop) → Mu → Prop} {μ : Mu} {k : List D → Mu → Prop} (ds : List D) (hb : ∀ d ∈ ds, ∀ K : Option D → Mu → Prop, K (some (.bl true)) μ → body d K μ) (h : k ((ds.map fun _ => true).map D.bl) μ) : runC body ds [] μ k := by
  refine runC_pure (fun _ => some (.bl true)) ds [] hb ?_
  have : ∀ l : List D, l.filterMap (fun _ => some (D.bl true)) = (l.map fun _ => true).map D.bl := fun l => by
    induction l with
    | nil => rfl
    | cons d l ih => simp [ih]
  rw [List.nil_append, this]
  exact h
theorem spelt_i {a : Addr} {z : Str} {n : Nat} {k : D → Nat → Prop} (hz : isSpelt z = true) (h : k (.bl true) n) : sp_is_spelt a [.c (.str z)] n k := by
  refine ⟨z, rfl, ?_, by rw [hz]; exact h⟩
  have := (spelt_iff.mp hz).1
  have h2 : z.length = z.cps.toList.length := by simp [Str.length]
  simp [lim]; omega
theorem eqb_nil {t : List (Str × Str)} : eqb (eTurns t) (.dk []) = decide (t = []) := by
  cases t with
  | nil => rfl
  | cons p t => simp [eTurns, eqb]
theorem cmp_nil {t : List (Str × Str)} (nd : (t.map (·.1)).Nodup) : cmpOk (eTurns t) (.dk []) = true := by
  obtain ⟨h1, h2⟩ := turns_ok nd
  unfold cmpOk
  rw [h1]
  have : agr (eTurns t) (.dk []) = true := by
    unfold eTurns
    simp only [agr]
    generalize t.map (fun p => ((.inr p.1 : Key), D.str p.2)) = l
    induction l with
    | nil => simp [agrk]
    | cons p l ih => simp [agrk, ih]
  rw [this]
  simp [eqOk, eqOkk]
  omega
theorem w_is_row (a : Addr) : ∀ ss n kk, sp_is_row a ss n kk → t_is_row a (ends kk) (rho0 N_is_row ss) ⟨[], n⟩ := by
  rintro ss n kk ⟨keys, r, rfl, ok, hk, q⟩
  have hlen := ok.len
  unfold t_is_row eRow
  walk_at "d"
  have e2 : eqb (D.int ((2 : Nat) : Int)) (.int 2) = true := by rw [eqb_ii]; rfl
  rw [e2, atI_zero, atI_one]
  walk_at "d"
  refine ⟨by rfl, ok.kind, ?_⟩
  have hd : decide (r.kind = Str.ofString "done") = decide (r.turns = []) := by
    have := ok.done
    by_cases h : r.turns = []
    · rw [decide_eq_true h, decide_eq_true (this.mpr h)]
    · rw [decide_eq_false h, decide_eq_false fun e => h (this.mp e)]
  rw [eqb_ss, eqb_nil, cmp_nil ok.nd, hd, eqb_self _ rfl, e_turns]
  walk_at "d"
  rw [keys_e]
  refine ⟨rfl, rfl, by simp [lim]; omega, ?_⟩
  refine runC_true' (k := fun b μ' => kk (.bl b) μ'.n) _ (fun d hdm K hK => ?_) q
  obtain ⟨z, hz, rfl⟩ := List.mem_map.mp hdm
  obtain ⟨p, hp, rfl⟩ := List.mem_map.mp hz
  refine spelt_i (ok.word p hp) ?_
  walk_at "d"
  rw [getK_e (f := D.str) hz]
  walk_at "d"
  rw [find_getT ok.nd hp]
  exact spelt_i (hk _ (ok.goal p hp)) hK
theorem w_is_book (a : Addr) : ∀ ss n kk, sp_is_book a ss n kk → t_is_book a (ends kk) (rho0 N_is_book ss) ⟨[], n⟩ := by
  rintro ss n kk ⟨b, rfl, ok, q⟩
  have hlen := ok.len
  obtain ⟨h1, h2⟩ := book_ok ok.nd fun p hp => (ok.row p hp).nd
  have hspk : ∀ z ∈ b.map (·.1), isSpelt z = true := fun z hz => by
    obtain ⟨p, hp, rfl⟩ := List.mem_map.mp hz
    exact ok.word p hp
  have c1 : cmpOk (eBook b) (.dk []) = true := by
    unfold cmpOk
    rw [h1]
    have : agr (eBook b) (.dk []) = true := by
      unfold eBook
      simp only [agr]
      generalize b.map (fun p => ((.inr p.1 : Key), eRow p.2)) = l
      induction l with
      | nil => simp [agrk]
      | cons p l ih => simp [agrk, ih]
    rw [this]
    simp [eqOk, eqOkk]
    omega
  have c2 : eqb (eBook b) (.dk []) = false := by
    have := ok.ne
    cases b with
    | nil => exact absurd rfl this
    | cons p t => simp [eBook, eqb]
  unfold t_is_book
  walk_at "d"
  rw [c1, c2, e_book]
  walk_at "d"
  rw [keys_e]
  have vals : (eT eRow b).map (·.2) = b.map fun p => eRow p.2 := by unfold eT; rw [List.map_map]; rfl
  rw [vals]
  refine ⟨by simp [lim]; omega, ?_⟩
  refine runC_trueG _ (fun d hdm K hK => ?_) ⟨_, rfl, ?_⟩
  · obtain ⟨z, hz, rfl⟩ := List.mem_map.mp hdm
    exact spelt_i (hspk z hz) hK
  rw [all_const 0]
  refine br_i (fun e => by cases e) fun _ => ⟨by simp [lim]; omega, ?_⟩
  refine runC_trueG _ (fun d hdm K hK => ?_) ⟨_, rfl, ?_⟩
  · obtain ⟨p, hp, rfl⟩ := List.mem_map.mp hdm
    exact ⟨_, _, rfl, ok.row p hp, hspk, hK⟩
  rw [all_const 0]
  refine br_i (fun e => by cases e) fun _ => ?_
  refine runA_ind (fun ds acc μ => ∃ (ps : Book) (m : Nat), ds = ps.map (fun p => eRow p.2) ∧ (∀ p ∈ ps, p ∈ b) ∧ acc = (List.replicate m true).map D.bl ∧ m + 6 * ps.length ≤ 36 ∧ μ = ⟨[], n⟩) ?_ ?_ _ _ _ ⟨b, 0, rfl, fun _ h => h, rfl, by omega, rfl⟩
  · rintro d ds acc μ K hK ⟨ps, m, hd, hin, rfl, hm, rfl⟩
    cases ps with
    | nil => cases hd
    | cons p ps =>
      rw [List.map_cons, List.cons.injEq] at hd
      obtain ⟨rfl, rfl⟩ := hd
      have okr := ok.row p (hin p (by simp))
      have hl := okr.len
      simp only [List.length_cons] at hm
      have hrow : eRow p.2 = .tup [.str p.2.kind, .dk (eT D.str p.2.turns)] := rfl
      rw [hrow]
      walk_at "d"
      have vals2 : (eT D.str p.2.turns).map (·.2) = p.2.turns.map fun p => D.str p.2 := by unfold eT; rw [List.map_map]; rfl
      rw [vals2]
      refine runA_ind (fun ds acc μ => ∃ (ts : List (Str × Str)) (m' : Nat), ds = ts.map (fun p => D.str p.2) ∧ (∀ q ∈ ts, q ∈ p.2.turns) ∧ acc = (List.replicate m' true).map D.bl ∧ m' + ts.length ≤ m + 6 ∧ μ = ⟨[], n⟩) ?_ ?_ _ _ _ ⟨p.2.turns, m, rfl, fun _ h => h, rfl, by omega, rfl⟩
      · rintro d ds acc μ K' hK' ⟨ts, m', hd, hin', rfl, hm', rfl⟩
        cases ts with
        | nil => cases hd
        | cons t ts =>
          rw [List.map_cons, List.cons.injEq] at hd
          obtain ⟨rfl, rfl⟩ := hd
          simp only [List.length_cons] at hm'
          have hg := okr.goal t (hin' t (by simp))
          walk_at "d"
          rw [hasK_e, decide_eq_true hg]
          refine ⟨by simp [lim]; omega, ?_⟩
          refine hK' _ _ ⟨ts, m' + 1, rfl, fun q hq => hin' q (by simp [hq]), ?_, by omega, rfl⟩
          rw [List.replicate_succ', List.map_append]; rfl
      · rintro acc μ ⟨ts, m', hd, hin', rfl, hm', rfl⟩
        have ht : ts = [] := by
          cases ts with
          | nil => rfl
          | cons _ _ => cases hd
        subst ht
        refine hK _ _ ⟨ps, m', rfl, fun q hq => hin q (by simp [hq]), rfl, ?_, rfl⟩
        simp at hm'
        omega
  · rintro acc μ ⟨ps, m, hd, hin, rfl, hm, rfl⟩
    refine ⟨List.replicate m true, rfl, ?_⟩
    have : (List.replicate m true).all (fun b => b) = true := by simp
    rw [this]
    exact q
end DL
/-! ## KR -/
namespace DL
open PySem PySem.Spec PyProof.Rows L2
abbrev s_l_purse : Stmt := top 38
abbrev s_l_purses : Stmt := top 41
theorem sc_l_purse : FnScope ["_law_script", "_law_at", "_law_seed"] ["_law_script", "_law_at"] (defScope s_l_purse) := ⟨rfl, rfl, rfl, by decide +kernel, rfl, by decide +kernel, by decide +kernel⟩
theorem sc_l_purses : FnScope ["_law_script", "_law_few", "_law_at"] ["_law_script", "_law_few"] (defScope s_l_purses) := ⟨rfl, rfl, rfl, by decide +kernel, rfl, by decide +kernel, by decide +kernel⟩
def spPurse (K : PySem.W.Frag) : Sp := fun vs H Q _ => ∃ (a : Addr) (ns : List Int) (i : Int), vs = [.ref a, .int i] ∧ SqL K H a (ns.map V.int) ∧ 0 ≤ i ∧ i < 100 ∧ ∀ (p : Addr) (H' : Hp), H p = none → (∀ b o, H b = some o → H' b = some o) → PurseAt H' p 0 → Q (.ref p) H'
theorem op_pow2 {X : Cx} : OpR X (binaryOp .Pow) (rI CP fun i j => .int (i ^ j.toNat)) := opI fun i j t u s Q E hc q => by
    obtain ⟨h1, h2, h3, h4⟩ := hc
    refine AutoIntOps.pow_4 (by omega) (by simp; omega) (by simp; omega) (by simp; omega) ?_ q
    have hb : Builtin.Int.intBits i ≤ 300 := intBits_le_iff.mpr (by omega)
    unfold Builtin.Int.intTooBig bitsLine
    have : ((Builtin.Int.intBits i : Nat) : Int) * j ≤ 300 * 100 := Int.mul_le_mul (by omega) h4 (by omega) (by omega)
    simp
    omega
section
variable {P : Program} {w : World} {K : PySem.W.Frag} {mg : Str → Option Value} {base : Heap} {a_Desk : Addr}
theorem ok_purse {f : Addr} {fd : FuncData} (F : Fun K "_law_purse" "_law_purse" s_l_purse f fd) (T : TX w K mg a_Desk) : FnOk P w K mg base CX0 1 f fd ["_law_script", "_law_at"] (spPurse K) := by
  refine F.ok sc_l_purse (fun vs H Q E h => ?_) (fun cdv A outer s H vs Q E hr h => ?_)
  · obtain ⟨a, ns, i, rfl, _⟩ := h
    rfl
  · obtain ⟨a, ns, i, rfl, hS, h0, h1, k⟩ := h
    have nd := sc_l_purse.nd
    refine ⟨_, pss_cons (ps_set (i := 2) nd rfl (.inl rfl) (pe_callB (cr_sum rfl) rfl T.m_sum (by decide +kernel) (pa_cons (pe_slice sl_list (pv 0) (po_some (pv 1)) (po_some (pe_op op_add (pv 1) pe_int))) pa_nil)))
      (pss_one (ps_ret (pe_lst (pa_cons (pe_op op_mod (pe_callTy call_int1 rfl T.m_int (by decide +kernel) (pa_cons (pe_callB (call_max2 rfl) rfl T.m_max (by decide +kernel) (pa_cons (pe_op op_sub (pv 2) (pe_op op_pow2 pe_int pe_int)) (pa_cons pe_int pa_nil))) pa_nil)) (pe_op op_pow2 (pe_op op_pow2 pe_int pe_int) pe_int))
        (pa_cons (pe_op op_mod (pe_callTy call_int1 rfl T.m_int (by decide +kernel) (pa_cons (pv 2) pa_nil)) pe_int) (pa_cons pe_int (pa_cons (pv 1) pa_nil))))))), ?_⟩
    have ecut : ∀ lo hi, cutV (ns.map V.int) lo hi = (cutL ns lo hi).map V.int := fun lo hi => by
      unfold cutV cutL
      rw [List.length_map, ← List.map_drop, ← List.map_take]
    have e480 : ((10 : Int) ^ (60 : Int).toNat) ^ (8 : Int).toNat = 10 ^ 480 := by decide +kernel
    refine ⟨_, rfl, _, rfl, i, rfl, _, rfl, i, 1, rfl, rfl, i + 1, rfl, a, _, rfl, hS, fun p hp => ?_⟩
    refine ⟨p, _, rfl, SqL.of (by rw [← ecut]; exact upd_same), ?_⟩
    generalize (cutL ns (some i) (some (i + 1))).sum = z
    have p480 : (0 : Int) < ((10 : Int) ^ (60 : Int).toNat) ^ (8 : Int).toNat := by decide +kernel
    refine ⟨_, rfl, 10, 18, rfl, rfl, ⟨by decide, by decide, by decide, by decide⟩, z, _, rfl, rfl, z - 10 ^ 18, 0, rfl, .inl ⟨_, rfl, ?_⟩⟩
    refine ⟨10, 60, rfl, rfl, ⟨by decide, by decide, by decide, by decide⟩, _, 8, rfl, rfl, ⟨by decide +kernel, by decide +kernel, by decide, by decide⟩, _, _, rfl, rfl, p480, ?_⟩
    refine ⟨_, rfl, .inl ⟨z, rfl, _, _, rfl, rfl, (by decide : (0 : Int) < 2147483629), _, rfl, (by show 4 ≤ sizeLine; decide), fun q hq => ?_⟩⟩
    have hqH : H q = none := by
      by_cases e : q = p
      · subst e; exact hp
      · rwa [upd_ne e] at hq
    refine k q _ hqH ?_ ?_
    · intro b o e
      rw [upd_ne (ne_of_none e hqH), upd_ne (ne_of_none e hp)]
      exact e
    · refine ⟨_, _, 0, i, upd_same, Int.emod_nonneg _ (by decide +kernel), ?_, Int.emod_nonneg _ (by decide), Int.emod_lt_of_pos _ (by decide), by decide, by decide, h0, h1⟩
      rw [← e480]
      exact Int.emod_lt_of_pos _ (by decide +kernel)
end
end DL
/-! ## KR2 -/
namespace DL
open PySem PySem.Spec PyProof.Rows L2
local macro_rules | `(tactic| walk_at "d") => `(tactic| simp only [rSeq, rSet, rRet, rIfS, rFor, rDrop, rNext, rDead, rBrk, rCont, rPur, rPurSet, rVar, rC, rBin, rCh, rAndV, rOrV, rNotV, rAnd, rOr, rNot, rIf, rT, rCB, rCons, rNil, rCall, rIsi, rIsi2, rIsiC, rSl, rNo, rPt, rNeg, rRev, rTup, rLst, rLstH, rDctH, rDct0, rDisp, rDispH, rP0, rP1, rPar, rPar3, rUnp, rAsg, rAug, iIt, iRng, iRng2, iItems, iVals, iZip, gNm, rMut, rPut, rFrz, rLC, rSetLc, rDc, rDcH, rDC, rYes, rStar, rMeth0, rMake, rFldSet, rEqO, rTur, rJoin, rBits, rIndexD, rList_values, rList_items, rFld, rLC2, rIn, wipeR, br_t, br_f, rho0, ends, endsI, q_sel, q_isB, q_isPur, q_isI, q_strD, q_lstD, q_dkD, q_dkS, q_argS0, q_argSc, q_argSp, q_coldS, q_onS, q_noTy_non, q_noTy_bl, q_noTy_int, q_noTy_str, q_noTy_lst, q_noTy_tup, q_noTy_dk, q_noTy_obj, q_addI, q_addS, q_addL, q_addT, q_intD, q_ltI, q_ltS, q_g1, q_g2, q_lenL, q_lenT, q_lenK, q_lenS, q_intOf, q_listL, q_listT, q_listK, q_listS, q_iterL, q_iterT, q_iterK, q_iterS, q_ixL, q_ixT, q_ixS, q_ixK, q_slS, q_slL, q_inL, q_inK, q_inS, q_inV, q_ninV, q_eqD, q_neD, q_rdC, q_rdH, q_hotL, q_hotK, q_setM0, q_setM1, q_nth0, q_nthS, q_colds0, q_colds1, q_keyI, q_keyS, q_app, q_ins, q_gTp, q_gLs, q_gCs, q_gNl, q_frz0, q_frz1, q_thN, q_thC, q_thP, q_thH, q_putS, q_objS, q_fld, q_objP, q_zipL, q_zipT, q_all, q_any, q_kit_NoneType_bool, q_kit_NoneType_int, q_kit_NoneType_str, q_kit_NoneType_list, q_kit_NoneType_tuple, q_kit_NoneType_dict, q_kit_bool_bool, q_kit_bool_int, q_kit_bool_str, q_kit_bool_list, q_kit_bool_tuple, q_kit_bool_dict, q_kit_int_bool, q_kit_int_int, q_kit_int_str, q_kit_int_list, q_kit_int_tuple, q_kit_int_dict, q_kit_str_bool, q_kit_str_int, q_kit_str_str, q_kit_str_list, q_kit_str_tuple, q_kit_str_dict, q_kit_list_bool, q_kit_list_int, q_kit_list_str, q_kit_list_list, q_kit_list_tuple, q_kit_list_dict, q_kit_tuple_bool, q_kit_tuple_int, q_kit_tuple_str, q_kit_tuple_list, q_kit_tuple_tuple, q_kit_tuple_dict, q_kit_dict_bool, q_kit_dict_int, q_kit_dict_str, q_kit_dict_list, q_kit_dict_tuple, q_kit_dict_dict, List.map_cons, List.map_nil, List.length_cons, List.length_nil, List.append_nil, List.cons_append, List.nil_append, List.set_cons_zero, List.set_cons_succ, List.replicate_succ, List.replicate_zero, Nat.reduceSub, Nat.reduceAdd, tyN, List.getD_cons_zero, List.getD_cons_succ, if_true, if_false, true_and, and_true, Nat.zero_add, List.set_nil, Bool.not_true, Bool.not_false])
def spPurses (K : PySem.W.Frag) : Sp := fun vs H Q _ => ∃ (a : Addr) (ns : List Int) (i : Int), vs = [.ref a, .int i] ∧ SqL K H a (ns.map V.int) ∧ ns.length ≤ 63 ∧ 1 ≤ i ∧ i < 100 ∧
  ∀ (p : Addr) (ps : List Addr) (H' : Hp), H p = none → (∀ b o, H b = some o → H' b = some o) → H' p = some (.lst (ps.map V.ref)) → ps.Nodup → (∀ q ∈ ps, H q = none ∧ q ≠ p ∧ PurseAt H' q 0) → Q (.ref p) H'
abbrev s_law : Stmt := top 60
theorem sc_law : FnScope ["_law_script", "_law_purse_here", "_law_world_here"] ["_law_script"] (defScope s_law) := ⟨rfl, rfl, rfl, by decide +kernel, rfl, by decide +kernel, by decide +kernel⟩
def spLaw (K : PySem.W.Frag) : Sp := fun vs H Q _ => ∃ (a : Addr) (ns : List Int), vs = [.ref a] ∧ SqL K H a (ns.map V.int) ∧ ns.length ≤ 63 ∧ ∀ H', Q (.bl true) H'
def forBody : List Stmt → List Stmt
  | .For _ _ b _ _ :: _ => b
  | _ => []
def t_law_b (a_Desk : Addr) : RS := (rSeq (rSet 2 (rBin ixD (rCall (sp_l_row_of a_Desk) (rCons (rVar 1) (rCons (rC (.int 6)) rNil))) (rC (.int 0))))
  (rIfS (rAnd (rT (rBin ltD (rCB (g1 lenD) (rCons (rCall (sp_l_said_words a_Desk) (rCons (rVar 2) rNil)) rNil)) (rC (.int 7)))) (rNot (rT (rCall (sp_l_rescues_right a_Desk) (rCons (rVar 1) (rCons (rVar 2) rNil))))))
  (rRet (rC (.bl false)))
  rNext))
section
variable {P : Program} {w : World} {K : PySem.W.Frag} {mg : Str → Option Value} {base : Heap} {a_Desk : Addr}
theorem ok_purses {f fP : Addr} {fd fdP : FuncData} (F : Fun K "_law_purses" "_law_purses" s_l_purses f fd) (T : TX w K mg a_Desk) (FP : Fun K "_law_purse" "_law_purse" s_l_purse fP fdP) (mP : mg "_law_purse" = some (.ref fP)) (bP : Binds K fdP ["_law_script", "_law_at"] []) :
    FnOk P w K mg base CX0 2 f fd ["_law_script", "_law_few"] (spPurses K) := by
  have GP : FnOk P w K mg base CX0 1 fP fdP ["_law_script", "_law_at"] (spPurse K) := ok_purse FP T
  refine F.ok sc_l_purses (fun vs H Q E h => ?_) (fun cdv A outer s H vs Q E hr h => ?_)
  · obtain ⟨a, ns, i, rfl, _⟩ := h
    rfl
  · obtain ⟨a, ns, few, rfl, hS, hl, h0, h1, k⟩ := h
    have nd := sc_l_purses.nd
    refine ⟨_, pss_one (ps_ret (pe_lc (own := [("_law_at", 2)]) (g := gName 2) (tt := tYes) rfl nd (pi_range1 rfl T.m_range (pa_cons (pe_callB (call_max2 rfl) rfl T.m_max (by decide +kernel) (pa_cons pe_int (pa_cons (pe_callB (call_min2 rfl) rfl T.m_min (by decide +kernel) (pa_cons (pv 1) (pa_cons (pe_callB call_len_seq rfl T.m_len (by decide +kernel) (pa_cons (pv 0) pa_nil)) pa_nil))) pa_nil))) pa_nil))
      (blkOk_by (by rfl)) (fun _ _ _ _ _ => pg_name (i := 2) nd rfl (Or.inl rfl)) (fun _ _ _ _ _ => pts_nil) (fun _ _ _ _ _ => pe_call GP hr rfl mP FP.kp bP .nil pass0 (pa_cons (pv 0) (pa_cons (pv 2) pa_nil))))), ?_⟩
    refine ⟨_, rfl, _, rfl, a, _, rfl, .inl hS, few, _, rfl, 1, _, rfl, _, rfl, ?_⟩
    rw [List.length_map]
    have hcnt : 1 ≤ (if (if (ns.length : Int) < few then (ns.length : Int) else few) > 1 then (if (ns.length : Int) < few then (ns.length : Int) else few) else 1) ∧ (if (if (ns.length : Int) < few then (ns.length : Int) else few) > 1 then (if (ns.length : Int) < few then (ns.length : Int) else few) else 1) < 100 := by
      split <;> split <;> omega
    generalize (if (if (ns.length : Int) < few then (ns.length : Int) else few) > 1 then (if (ns.length : Int) < few then (ns.length : Int) else few) else 1) = cnt at hcnt
    refine ⟨by omega, by omega, fun D hD => ?_⟩
    refine ⟨fun i m H2 => m = cnt.toNat - i ∧ i ≤ cnt.toNat ∧ ∃ ps : List Addr, ps.length = i ∧ H2 D = some (.lst (ps.map V.ref)) ∧ (∀ b o, H b = some o → H2 b = some o) ∧ ps.Nodup ∧ ∀ q ∈ ps, H q = none ∧ q ≠ D ∧ PurseAt H2 q 0,
      ⟨_, rfl, Nat.zero_le _, [], rfl, upd_same, fun b o e => by rw [upd_ne (ne_of_none e hD)]; exact e, List.nodup_nil, by simp⟩, ?_⟩
    rintro i m H2 ⟨rfl, hi, ps, hpl, hv, hkp, hnd, hps⟩
    by_cases hlt : i < cnt.toNat
    · right
      refine ⟨hlt, fun H3 => ∃ ps : List Addr, ps.length = i + 1 ∧ H3 D = some (.lst (ps.map V.ref)) ∧ (∀ b o, H b = some o → H3 b = some o) ∧ ps.Nodup ∧ ∀ q ∈ ps, H q = none ∧ q ≠ D ∧ PurseAt H3 q 0, fun H3 h3 => ⟨cnt.toNat - (i + 1), by omega, rfl, hlt, h3⟩, fun x H3 yx => ?_⟩
      obtain ⟨rfl, rfl⟩ := yx
      refine ⟨rfl, iteT (B := True) ?_⟩
      have hS2 := SqL.ext hS hkp
      refine ⟨_, rfl, _, rfl, a, ns, 0 + (i : Int), rfl, hS2, by omega, by omega, fun p H4 hp hk4 hP4 => ?_⟩
      have hD4 := hk4 _ _ hv
      have hpD : p ≠ D := fun e => by rw [e, hv] at hp; cases hp
      have hpn : p ∉ ps := fun hm => by
        obtain ⟨_, _, a1, b1, c1, d1, e1, _⟩ := hps p hm
        rw [e1] at hp; cases hp
      have hpH : H p = none := by
        cases e : H p with
        | none => rfl
        | some o => rw [hkp _ _ e] at hp; cases hp
      refine ⟨_, hD4, by rw [List.length_map, lim_eq]; show ps.length < 16777216; omega, ps ++ [p], by simp [hpl], by rw [upd_same, List.map_append]; rfl, fun b o e => ?_, ?_, fun q hq => ?_⟩
      · have hbD : b ≠ D := ne_of_none e hD
        rw [upd_ne hbD]
        exact hk4 _ _ (hkp _ _ e)
      · rw [List.nodup_append]
        refine ⟨hnd, by simp, fun x hx y hy => ?_⟩
        rw [List.mem_singleton.mp hy]
        exact fun e => hpn (e ▸ hx)
      · rcases List.mem_append.mp hq with hq | hq
        · obtain ⟨h1', h2', a1, b1, c1, d1, e1, e2⟩ := hps q hq
          exact ⟨h1', h2', a1, b1, c1, d1, by rw [upd_ne h2']; exact hk4 _ _ e1, e2⟩
        · rw [List.mem_singleton.mp hq]
          obtain ⟨a1, b1, c1, d1, e1, e2⟩ := hP4
          exact ⟨hpH, hpD, a1, b1, c1, d1, by rw [upd_ne hpD]; exact e1, e2⟩
    · left
      have hi2 : i = cnt.toNat := by omega
      exact ⟨by show cnt.toNat ≤ i; omega, k D ps H2 hD hkp hv hnd hps⟩
theorem w_law_b (a : Addr) {q : D → Nat → Prop} {k : Rho → Mu → Prop} (hk : ∀ ρ μ, ρ.length = 3 → k ρ μ) {x : Option S} : t_law_b a { nx := k, rt := fun _ _ => False } [none, some .pur, x] ⟨[], 0⟩ := by
  unfold t_law_b
  walk_at "d"
  refine ⟨rfl, by decide, fun w ws n' hw hws h1 h2 m0 m1 => ?_⟩
  walk_at "d"
  rw [atI_zero]
  walk_at "d"
  refine ⟨w, rfl, hw, ?_⟩
  unfold ePairs
  walk_at "d"
  have hb : BIG = 1000000000000000000 := rfl
  refine br_i (fun e => ⟨w, rfl, hw, ?_, by omega, fun n2 m2 m3 => ?_⟩) fun _ => hk _ _ rfl
  · have : (sortP (saidP w.book)).length = (saidP w.book).length := (List.mergeSort_perm _ _).length_eq
    have e := of_decide_eq_true e
    simp [this] at e
    omega
  · walk_at "d"
    exact hk _ _ rfl
theorem d_law_b {f : Addr} {l1 l2 l3 : Nat} (T : TX w K mg a_Desk) (G_l_row_of : FnD P w K mg base l1 "_law_row_of" (sp_l_row_of a_Desk)) (G_l_said_words : FnD P w K mg base l2 "_law_said_words" (sp_l_said_words a_Desk)) (G_l_rescues_right : FnD P w K mg base l3 "_law_rescues_right" (sp_l_rescues_right a_Desk))
    (cdv : Value) (A : Around) (outer : List Env) (s : Shared) (H : Hp) (E : XK) (pu : Option Addr) (hr : Room 40 (A.deeper (envOfC "law" (defScope s_law) s.heap.objs.size f cdv))) (hl1 : l1 ≤ 40) (hl2 : l2 ≤ 40) (hl3 : l3 ≤ 40) :
    DSs (cxOf CX0 P w K mg base ["_law_script", "_law_purse_here", "_law_world_here"] "law" (defScope s_law) f cdv A outer s H E).nox pu (forBody (defBody s_law)) (t_law_b a_Desk) := by
  have nd := sc_law.nd
  have hu := hu_of hr
  have hu64 := hr.units
  exact (dss_cons (ds_set 2 nd rfl (.inl rfl) (de_ix (di_ix hu) (de_call G_l_row_of (hr.mono hl1) rfl (da_cons (de_var 1) (da_cons de_int da_nil))) de_int (fun _ _ => rfl)))
  (dss_one (ds_if (dt_bool (dw_and (dt_cmp d2_lt (de_cb dc_len rfl T.m_len (by decide +kernel) (da_cons (de_call G_l_said_words (hr.mono hl2) rfl (da_cons (de_var 2) da_nil)) da_nil)) de_int rfl) (dw_one_and (dt_not (dt_of (de_call G_l_rescues_right (hr.mono hl3) rfl (da_cons (de_var 1) (da_cons (de_var 2) da_nil))))))))
  (dss_one (ds_ret de_bl))
  dss_nil)))
end
end DL
/-! ## KR3 -/
namespace DL
open PySem PySem.Spec PyProof.Rows L2
section
variable {P : Program} {w : World} {K : PySem.W.Frag} {mg : Str → Option Value} {base : Heap} {a_Desk : Addr}
theorem ok_law {f fS : Addr} {fd fdS : FuncData} {l1 l2 l3 : Nat} (F : Fun K "law" "law" s_law f fd) (T : TX w K mg a_Desk) (GS : FnOk P w K mg base CX0 2 fS fdS ["_law_script", "_law_few"] (spPurses K)) (mS : mg "_law_purses" = some (.ref fS)) (kS : PySem.W.keepIn K (.ref fS) = true) (bS : Binds K fdS ["_law_script", "_law_few"] [])
    (G_l_row_of : FnD P w K mg base l1 "_law_row_of" (sp_l_row_of a_Desk)) (G_l_said_words : FnD P w K mg base l2 "_law_said_words" (sp_l_said_words a_Desk)) (G_l_rescues_right : FnD P w K mg base l3 "_law_rescues_right" (sp_l_rescues_right a_Desk)) (hl1 : l1 ≤ 40) (hl2 : l2 ≤ 40) (hl3 : l3 ≤ 40) :
    FnOk P w K mg base CX0 41 f fd ["_law_script"] (spLaw K) := by
  refine F.ok sc_law (fun vs H Q E h => ?_) (fun cdv A outer s H vs Q E hr h => ?_)
  · obtain ⟨a, ns, rfl, _⟩ := h
    rfl
  · obtain ⟨a, ns, rfl, hS, hlen, k⟩ := h
    have nd := sc_law.nd
    have hb := fun pu => d_law_b (P := P) (base := base) (f := f) T G_l_row_of G_l_said_words G_l_rescues_right cdv A outer s H E pu hr hl1 hl2 hl3
    refine ⟨_, pss_cons (ps_for PassesOwn.never rfl (pi_list (pe_call GS (hr.mono (by decide)) rfl mS kS bS .nil pass0 (pa_cons (pv 0) (pa_cons pe_int pa_nil)))) (pg_name (i := 1) nd rfl (Or.inl rfl)) WSs.pss)
      (pss_one (ps_ret pe_bl)), ?_⟩
    refine ⟨_, rfl, a, ns, 4, rfl, hS, hlen, by decide, by decide, fun p ps H1 hp hk hv hnd hps => ⟨p, rfl, ⟨_, SqL.of hv⟩, for_list (K := K) (a := p) (xs := ps.map V.ref)
      (fun i σ H2 => σ.length = 3 ∧ H2 p = some (.lst (ps.map V.ref)) ∧ ∀ j q, i ≤ j → ps[j]? = some q → PurseAt H2 q 0) ⟨rfl, hv, fun j q _ e => (hps q (List.mem_of_getElem? e)).2.2⟩ (fun i σ H2 _ h => SqL.of h.2.1) ?_ ?_⟩⟩
    · rintro i x σ H2 hx ⟨hl, hv2, hps2⟩
      rw [List.getElem?_map] at hx
      cases eq : ps[i]? with
      | none => rw [eq] at hx; cases hx
      | some q =>
        rw [eq] at hx
        cases hx
        have hqp : q ≠ p := (hps q (List.mem_of_getElem? eq)).2.1
        have st : Sta (some q) [] (fun _ => none) ⟨[], 0⟩ H2 := ⟨fun b u e => (by cases e), rfl, List.nodup_nil, fun n a c e _ => (by simp at e), fun a h => (by simp at h), fun r e => (by
          cases e
          exact ⟨rfl, hps2 i q (Nat.le_refl _) eq⟩)⟩
        have hl2' : (σ.set 1 (some (V.ref q))).length = 3 := by rw [List.length_set]; exact hl
        have rh : RhoOk (some q) [] (fun _ => none) [none, some .pur, none] (σ.set 1 (some (V.ref q))) := by
          refine ⟨hl2'.symm, fun j d e => ?_⟩
          match j with
          | 0 => simp at e
          | 1 =>
            simp at e
            subst e
            exact ⟨.ref q, List.getElem?_set_self (by omega), q, rfl, rfl⟩
          | 2 => simp at e
          | j + 3 => simp at e
        refine (hb (some q) [] (fun _ => none) ⟨[], 0⟩ H2 _ [none, some .pur, none] { nx := fun ρ _ => ρ.length = 3, rt := fun _ _ => False } st rh (w_law_b a_Desk (q := fun _ _ => True) (fun ρ _ h => h))).mono ⟨?_, ?_, ?_, ?_⟩
        · rintro σ' H' ⟨as', F', μ', ρ', o, s', rh', h3⟩
          refine ⟨by rw [← rh'.1]; exact h3, o.keep p _ hv2 (fun e => hqp (Option.some.inj e)) (by simp), fun j r hj e => ?_⟩
          obtain ⟨a1, b1, c1, d1, e1, e2⟩ := hps2 j r (by omega) e
          have hrq : q ≠ r := fun hh => by
            subst hh
            obtain ⟨l1, g1⟩ := List.getElem?_eq_some_iff.mp eq
            obtain ⟨l2, g2⟩ := List.getElem?_eq_some_iff.mp e
            have := (List.getElem_inj hnd).mp (g1.trans g2.symm)
            omega
          exact ⟨a1, b1, c1, d1, o.keep r _ e1 (fun hh => hrq (Option.some.inj hh)) (by simp), e2⟩
        · rintro v H' ⟨_, _, _, _, _, _, _, q⟩; exact q.elim
        · rintro σ' H' ⟨_, _, _, _, _, _, _, q⟩; exact q.elim
        · rintro σ' H' ⟨_, _, _, _, _, _, _, q⟩; exact q.elim
    · rintro σ H2 _
      exact k H2
end
end DL
/-! ## KR4 -/
namespace DL
open PySem PySem.Spec PyProof.Rows L2
/-! ### what is told is fresh, and may be changed -/
/-- without the lists -/
def nlH (F : Hp) : Hp := fun a => match F a with
  | some (.lst _) => none
  | o => o
mutual
def noL : D → Bool
  | .lst _ => false
  | .dt _ => false
  | .tup ds => noLs ds
  | .dk ds => noLk ds
  | .obj _ fs => noLf fs
  | _ => true
def noLs : List D → Bool
  | [] => true
  | d :: ds => noL d && noLs ds
def noLk : List (Key × D) → Bool
  | [] => true
  | (_, d) :: ds => noL d && noLk ds
def noLf : List (Str × D) → Bool
  | [] => true
  | (_, d) :: ds => noL d && noLf ds
end
theorem nlH_same (F : Hp) : Same (nlH F) F := fun a o e => by
  unfold nlH at e
  split at e
  · cases e
  · exact e
theorem nlH_no (F : Hp) (a : Addr) (vs : List V) : nlH F a ≠ some (.lst vs) := fun e => by
  have h := nlH_same F a _ e
  unfold nlH at e
  rw [h] at e
  cases e
theorem nlH_of {F : Hp} {a : Addr} {o : HO} (h : F a = some o) (hn : ∀ vs, o ≠ .lst vs) : nlH F a = some o := by
  unfold nlH
  rw [h]
  cases o with
  | lst vs => exact absurd rfl (hn vs)
  | _ => rfl
mutual
theorem Rep.nl {F : Hp} : ∀ (d : D) {v : V}, noL d = true → Rep F d v → Rep (nlH F) d v
  | .non, _, _, h => by simpa only [Rep] using h
  | .bl _, _, _, h => by simpa only [Rep] using h
  | .int _, _, _, h => by simpa only [Rep] using h
  | .str _, _, _, h => by simpa only [Rep] using h
  | .ty _, _, _, h => by simpa only [Rep] using h
  | .adr _, _, _, h => by simpa only [Rep] using h
  | .lst ds, _, e, h => by simp [noL] at e
  | .dt ds, _, e, h => by simp [noL] at e
  | .tup ds, _, e, h => by
    simp only [noL] at e
    simp only [Rep] at h ⊢
    obtain ⟨a, vs, h1, h2, h3⟩ := h
    exact ⟨a, vs, h1, nlH_of h2 (fun _ e => nomatch e), Reps.nl ds e h3⟩
  | .dk ds, _, e, h => by
    simp only [noL] at e
    simp only [Rep] at h ⊢
    obtain ⟨a, vs, o, h1, h2, h3⟩ := h
    exact ⟨a, vs, o, h1, nlH_of h2 (fun _ e => nomatch e), RepK.nl ds e h3⟩
  | .obj C ds, _, e, h => by
    simp only [noL] at e
    simp only [Rep] at h ⊢
    obtain ⟨a, dx, vs, h1, h2, h3⟩ := h
    exact ⟨a, dx, vs, h1, nlH_of h2 (fun _ e => nomatch e), RepF.nl ds e h3⟩
theorem Reps.nl {F : Hp} : ∀ (ds : List D) {vs : List V}, noLs ds = true → Reps F ds vs → Reps (nlH F) ds vs
  | [], _, _, h => by simpa only [Reps] using h
  | d :: ds, _, e, h => by
    simp only [noLs, Bool.and_eq_true] at e
    simp only [Reps] at h ⊢
    obtain ⟨v, r, h1, h2, h3⟩ := h
    exact ⟨v, r, h1, Rep.nl d e.1 h2, Reps.nl ds e.2 h3⟩
theorem RepK.nl {F : Hp} : ∀ (ds : List (Key × D)) {vs : List (Key × V)}, noLk ds = true → RepK F ds vs → RepK (nlH F) ds vs
  | [], _, _, h => by simpa only [RepK] using h
  | (k, d) :: ds, _, e, h => by
    simp only [noLk, Bool.and_eq_true] at e
    simp only [RepK] at h ⊢
    obtain ⟨v, r, h1, h2, h3⟩ := h
    exact ⟨v, r, h1, Rep.nl d e.1 h2, RepK.nl ds e.2 h3⟩
theorem RepF.nl {F : Hp} : ∀ (ds : List (Str × D)) {vs : List (Str × V)}, noLf ds = true → RepF F ds vs → RepF (nlH F) ds vs
  | [], _, _, h => by simpa only [RepF] using h
  | (k, d) :: ds, _, e, h => by
    simp only [noLf, Bool.and_eq_true] at e
    simp only [RepF] at h ⊢
    obtain ⟨v, r, h1, h2, h3⟩ := h
    exact ⟨v, r, h1, Rep.nl d e.1 h2, RepF.nl ds e.2 h3⟩
end
def mask1 : Option S → Option S
  | some (.c d) => if noL d = true then some (.c d) else none
  | some .pur => some .pur
  | _ => none
def onlyR (ρ : Rho) (i : Nat) (d : D) : Rho := (List.replicate ρ.length none).set i (some (.c d))
section
variable {pu : Option Addr} {F F' G G' H H' H2 H3 H4 H5 : Hp} {n : Nat} {ρ : Rho} {σ : L2.St} {a a0 : Addr}
theorem RhoOk.mask (rh : RhoOk pu [] F ρ σ) : RhoOk pu [] (nlH F) (ρ.map mask1) σ := by
  refine ⟨by rw [List.length_map]; exact rh.1, fun i d e => ?_⟩
  rw [List.getElem?_map] at e
  cases e1 : ρ[i]? with
  | none => rw [e1] at e; cases e
  | some x =>
    rw [e1] at e
    simp only [Option.map_some, Option.some.injEq] at e
    cases x with
    | none => cases e
    | some s =>
      obtain ⟨v, h1, h2⟩ := rh.2 i s e1
      cases s with
      | c d0 =>
        simp only [mask1] at e
        by_cases hn : noL d0 = true
        · rw [if_pos hn] at e
          cases e
          exact ⟨v, h1, Rep.nl d0 hn h2⟩
        · rw [if_neg hn] at e; cases e
      | pur =>
        simp only [mask1] at e
        cases e
        exact ⟨v, h1, h2⟩
      | hot m => simp only [mask1] at e; cases e
theorem RhoOk.only {i : Nat} {d : D} {v : V} (hl : ρ.length = σ.length) (h : σ[i]? = some (some v)) (r : Rep F d v) : RhoOk pu [] F (onlyR ρ i d) σ := by
  refine ⟨by unfold onlyR; rw [List.length_set, List.length_replicate]; exact hl, fun j s e => ?_⟩
  unfold onlyR at e
  by_cases hj : j = i
  · subst hj
    have : j < ρ.length := by
      have := (List.getElem?_eq_some_iff.mp e).1
      simpa using this
    rw [List.getElem?_set_self (by simpa using this)] at e
    cases e
    exact ⟨v, h, r⟩
  · rw [List.getElem?_set_ne (Ne.symm hj), List.getElem?_replicate] at e
    split at e
    · cases e
    · cases e
theorem RhoOk.drop {as : List Addr} (rh : RhoOk pu as F ρ σ) (i : Nat) : RhoOk pu as F (ρ.set i none) σ := by
  refine ⟨by rw [List.length_set]; exact rh.1, fun j s e => ?_⟩
  by_cases hj : j = i
  · subst hj
    have : j < ρ.length := by
      have := (List.getElem?_eq_some_iff.mp e).1
      simpa using this
    rw [List.getElem?_set_self this] at e
    cases e
  · rw [List.getElem?_set_ne (Ne.symm hj)] at e
    exact rh.2 j s e
theorem Sta.view (st : Sta pu [] F ⟨[], n⟩ H) (g : Same G H) (hp : ∀ p, pu = some p → G p = none) : Sta pu [] G ⟨[], n⟩ H :=
  ⟨g, rfl, List.nodup_nil, fun n a c e _ => by simp at e, fun a h => by simp at h, fun p e => ⟨hp p e, (st.pur p e).2⟩⟩
theorem Sta.out (st : Sta pu [] F ⟨[], n⟩ H) (o : Out pu [] G H [] G' H') (st' : Sta pu [] G' ⟨[], n⟩ H') : Sta pu [] F ⟨[], n⟩ H' ∧ Out pu [] F H [] F H' := by
  refine ⟨st'.view (fun b u e => o.keep b u (st.le _ _ e) (fun hp => ?_) (by simp)) fun p e => (st.pur p e).1, ⟨.refl, o.keep, fun _ h => .inl h, fun _ h => .inl h, o.alive⟩⟩
  rw [(st.pur b hp).1] at e
  cases e
/-- what is told stands, out of the frozen heap -/
structure MidT (pu : Option Addr) (F H F3 : Hp) (a : Addr) (n : Nat) (H7 : Hp) : Prop where
  st : Sta pu [] F3 ⟨[], n⟩ H7
  o : Out pu [] F H [] F3 H7
  a0 : H a = none
  a3 : F3 a = none
  ap : pu ≠ some a
  li : ∃ vs, H7 a = some (.lst vs) ∧ vs.length ≤ 101
theorem MidT.step {F3 : Hp} (m : MidT pu F H F3 a n H3) (o : Out pu [] G H3 [] G' H4) (st : Sta pu [] G' ⟨[], n⟩ H4) : MidT pu F H F3 a n H4 := by
  obtain ⟨s2, o2⟩ := m.st.out o st
  obtain ⟨vs, h1, h2⟩ := m.li
  exact ⟨s2, m.o.trans o2, m.a0, m.a3, m.ap, vs, o.keep a _ h1 m.ap (by simp), h2⟩
theorem MidT.put {F3 : Hp} {b : Addr} {u : HO} (m : MidT pu F H F3 a n H3) (h1 : H b = none) (h2 : F3 b = none) (h3 : pu ≠ some b) : Sta pu [] F3 ⟨[], n⟩ (upd H3 b u) ∧ Out pu [] F H [] F3 (upd H3 b u) := by
  constructor
  · refine ⟨fun c u e => ?_, rfl, List.nodup_nil, fun n a c e _ => by simp at e, fun a h => by simp at h, fun p e => ⟨(m.st.pur p e).1, ?_⟩⟩
    · have : c ≠ b := fun hc => by rw [hc, h2] at e; cases e
      rw [upd_ne this]
      exact m.st.le _ _ e
    · obtain ⟨x, y, z, w, g1, g2⟩ := (m.st.pur p e).2
      have : p ≠ b := fun hc => h3 (hc ▸ e)
      exact ⟨x, y, z, w, by rw [upd_ne this]; exact g1, g2⟩
  · refine ⟨m.o.ge, fun c u e hp hc => ?_, m.o.new, m.o.dom, fun c e => ?_⟩
    · have : c ≠ b := fun hc => by rw [hc, h1] at e; cases e
      rw [upd_ne this]
      exact m.o.keep c u e hp hc
    · by_cases hc : c = b
      · rw [hc, upd_same]; exact fun e => nomatch e
      · rw [upd_ne hc]; exact m.o.alive c e
theorem MidT.upd {F3 : Hp} {b : Addr} {us : List V} (m : MidT pu F H F3 a n H3) (h1 : H b = none) (h2 : F3 b = none) (h3 : pu ≠ some b) (hl : us.length ≤ 101) : MidT pu F H F3 a n (upd H3 b (.lst us)) := by
  obtain ⟨g1, g2⟩ := m.put (u := .lst us) h1 h2 h3
  refine ⟨g1, g2, m.a0, m.a3, m.ap, ?_⟩
  obtain ⟨vs, g1, g2⟩ := m.li
  by_cases hc : a = b
  · exact ⟨us, by rw [hc, upd_same], hl⟩
  · exact ⟨vs, by rw [upd_ne hc]; exact g1, g2⟩
end
section
variable {X : Cx} {pu : Option Addr}
theorem raw_app {o e : Expr} {es : List Expr} {apos cpos : Pos} {σ : L2.St} {H : Hp} {Q : VK}
    (hw : WE X o σ H fun v H1 => ∃ a vs0, v = .ref a ∧ H1 a = some (.lst vs0) ∧ WA X (e :: es) σ H1 fun ys H2 => ∃ vs y, ys = [y] ∧ H2 a = some (.lst vs) ∧ vs.length < lim ∧ Q .non (upd H2 a (.lst (vs ++ [y]))))
    (hbase : attributeBase o "append" X.env (eval o X.env) = eval o X.env := by rfl)
    (hfew : ((backTo cpos (starEach (e :: es) X.env)).all (fun x => !x.1) && (backToKw cpos (keywordEach [] X.env)).all (fun x => x.1.isSome)
      && decide ((e :: es).length + ([] : List Keyword).length + (if ([] : List Keyword).isEmpty then 0 else 1) < 30)) = true := by rfl)
    (hline : (apos.endLine == cpos.line) = true := by rfl) (hs : starEach (e :: es) X.env = (false, eval e X.env) :: starEach es X.env := by rfl) (hplain : (backTo cpos (starEach es X.env)).any (·.1) = false := by rfl) :
    WE X (.Call (.Attribute o "append" apos) (e :: es) [] cpos) σ H Q := by
  refine WE.of (pe_bm (r := fun x xs H Q => ∀ (pins : List (Addr × Obj)) (s : Shared) (σ : L2.St) (v : Value) (us : List Value), Inv X pins σ H s → RelV x v → Vals xs us → wpAny (model X.prog X.w) X.A (call (.builtin "list.append") (v :: us)) (EP X pins σ Q) X.xe s)
    PySem.F.plainAttrs_list PySem.F.slot_list_append PySem.F.type_list_append (fun pins s σ H x xs v us Q I r1 r2 q => q pins s σ v us I r1 r2) WE.pe WA.pa hbase hfew hline hs hplain) ?_
  refine hw.mono fun v H1 ⟨a, vs0, e1, hv, h2⟩ => ?_
  subst e1
  refine ⟨.inl ⟨rfl, _, SqL.of hv⟩, h2.mono fun ys H2 ⟨vs, y, e2, hv2, hl, q⟩ => ?_⟩
  subst e2
  intro pins s σ' v us I rv rus
  exact mt_append pins s σ' H2 (.ref a) [y] v us Q I rv rus ⟨a, vs, y, rfl, rfl, hv2, by rw [lim_eq]; exact hl, q⟩
end
end DL
/-! ## KR5 -/
namespace DL
open PySem PySem.Spec PyProof.Rows L2
def rTold (i : Nat) (tc : RE) (t2 : RT) (t3 : RS) (t4 : RT) (te4 : RE) (ta4 ta5 : RA) (tr : RS) : RS := fun N ρ μ =>
  μ.hot = [] ∧ i < ρ.length ∧ ∃ L : List D, L.length ≤ 100 ∧
    tc (ρ.map mask1) ⟨[], μ.n⟩ (fun d μ1 => d = .c (.lst L) ∧ μ1 = ⟨[], μ.n⟩) ∧
    t2 (ρ.set i (some (.c (.lst L)))) ⟨[], μ.n⟩ (fun b μ1 => b = false ∧ μ1 = ⟨[], μ.n⟩) ∧
    t4 (onlyR ρ i (.lst L)) ⟨[], μ.n⟩ (fun b μ1 => (b = true → L ≠ []) ∧ μ1 = ⟨[], μ.n⟩) ∧
    (L ≠ [] → ∃ M, M.length ≤ 100 ∧ te4 (onlyR ρ i (.lst L)) ⟨[], μ.n⟩ (fun d μ1 => d = .c (.lst M) ∧ μ1 = ⟨[], μ.n⟩)) ∧
    ta4 (List.replicate ρ.length none) ⟨[], μ.n⟩ (fun ss μ1 => ss.length = 1 ∧ μ1 = ⟨[], μ.n⟩) ∧
    ta5 (List.replicate ρ.length none) ⟨[], μ.n⟩ (fun ss μ1 => ss.length = 1 ∧ μ1 = ⟨[], μ.n⟩) ∧
    ∀ a, t3 { nx := fun ρ' μ' => ρ'[i]? = some (some (.c (.adr a))) ∧ μ' = ⟨[], μ.n⟩ ∧ ρ'.length = ρ.length ∧ tr N (ρ'.set i none) ⟨[], μ.n⟩, rt := fun _ _ => False } (ρ.set i (some (.c (.adr a)))) ⟨[], μ.n⟩
section
variable {X : Cx} {pu : Option Addr} {e1 c2 c4 e4 a4 a5 : Expr} {sa rest : List Stmt} {st3 : Stmt} {tc te4 : RE} {t2 t4 : RT} {t3 tr : RS} {ta4 ta5 : RA} {p1 p2 p4 px px5 ap4 cp4 ap5 cp5 pe4 pe5 : Pos} {x : Str}
theorem rep_lst_ref {F : Hp} {L : List D} {v : V} (h : Rep F (.lst L) v) : ∃ a vs, v = .ref a ∧ F a = some (.lst vs) ∧ vs.length = L.length := by
  simp only [Rep] at h
  obtain ⟨a, vs, h1, h2, h3⟩ := h
  exact ⟨a, vs, h1, h2, h3.length⟩
theorem rho_none {F : Hp} {ρ : Rho} {σ : L2.St} (hl : ρ.length = σ.length) : RhoOk pu [] F (List.replicate ρ.length none) σ := by
  refine ⟨by rw [List.length_replicate]; exact hl, fun j s e => ?_⟩
  rw [List.getElem?_replicate] at e
  split at e
  · cases e
  · cases e
theorem one_of {vs : List V} (h : vs.length = 1) : ∃ v, vs = [v] := by
  match vs, h with
  | [v], _ => exact ⟨v, rfl⟩
theorem nth_of : ∀ {ρ : Rho} {i : Nat} {d : S}, ρ[i]? = some (some d) → nth ρ i = some d
  | [], _, _, h => by simp at h
  | a :: l, 0, d, h => by simp at h; simp [nth, h]
  | a :: l, i + 1, d, h => by simp at h; simpa [nth] using nth_of h
theorem dss_told (i : Nat) (nd : X.N.Nodup) (hi : X.N[i]? = some x) (hx : Loc X.env.scope x) (hf : X.fn x = true ∨ X.env.scope.names.lookup x = some .local)
    (hc : DE X pu e1 tc) (h2 : DT X pu c2 t2) (h3 : DS X pu st3 t3) (h4 : DT X pu c4 t4) (he4 : DE X pu e4 te4) (ha4 : DA X pu [a4] ta4) (hv5 : DE X pu (.Name x px5) (rVar i)) (ha5 : DA X pu [a5] ta5) (hr : DSs X pu rest tr)
    (hsw : swapsWith e1 (some (.Name x px)) p1.line X.env = pure false := by rfl)
    (w4 : swapsWith (.Call (.Attribute e4 "append" ap4) [a4] [] cp4) none pe4.line X.env = pure false := by rfl)
    (w5 : swapsWith (.Call (.Attribute (.Name x px5) "append" ap5) [a5] [] cp5) none pe5.line X.env = pure false := by rfl)
    (b4 : attributeBase e4 "append" X.env (eval e4 X.env) = eval e4 X.env := by rfl)
    (f4 : ((backTo cp4 (starEach [a4] X.env)).all (fun x => !x.1) && (backToKw cp4 (keywordEach [] X.env)).all (fun x => x.1.isSome)
      && decide (([a4] : List Expr).length + ([] : List Keyword).length + (if ([] : List Keyword).isEmpty then 0 else 1) < 30)) = true := by rfl)
    (l4 : (ap4.endLine == cp4.line) = true := by rfl) (s4 : starEach [a4] X.env = (false, eval a4 X.env) :: starEach [] X.env := by rfl) (q4 : (backTo cp4 (starEach [] X.env)).any (·.1) = false := by rfl)
    (b5 : attributeBase (.Name x px5) "append" X.env (eval (.Name x px5) X.env) = eval (.Name x px5) X.env := by rfl)
    (f5 : ((backTo cp5 (starEach [a5] X.env)).all (fun x => !x.1) && (backToKw cp5 (keywordEach [] X.env)).all (fun x => x.1.isSome)
      && decide (([a5] : List Expr).length + ([] : List Keyword).length + (if ([] : List Keyword).isEmpty then 0 else 1) < 30)) = true := by rfl)
    (l5 : (ap5.endLine == cp5.line) = true := by rfl) (s5 : starEach [a5] X.env = (false, eval a5 X.env) :: starEach [] X.env := by rfl) (q5 : (backTo cp5 (starEach [] X.env)).any (·.1) = false := by rfl) :
    DSs X pu (.Assign [.Name x px] e1 p1 :: .If c2 sa [] p2 :: st3 :: .If c4 [.Expr (.Call (.Attribute e4 "append" ap4) [a4] [] cp4) pe4] [] p4 :: .Expr (.Call (.Attribute (.Name x px5) "append" ap5) [a5] [] cp5) pe5 :: rest) (rTold i tc t2 t3 t4 te4 ta4 ta5 tr) := by
  intro as F0 μ H0 σ0 ρ N st0 rh0 h
  obtain ⟨hot0, hil, L, hL, g1, g2, g4, g5, ga4, ga5, g3⟩ := h
  obtain ⟨hot, n⟩ := μ
  simp only at hot0 g1 g2 g3 g4 g5 ga4 ga5
  subst hot0
  have has : as = [] := List.length_eq_zero_iff.mp (by rw [st0.len]; rfl)
  subst has
  have pur0 : ∀ p, pu = some p → F0 p = none := fun p e => (st0.pur p e).1
  refine WSs.of (pss_cons (ps_set nd hi hx WE.pe hsw hf) WSs.pss) ?_
  refine (hc [] (nlH F0) ⟨[], n⟩ H0 σ0 _ _ (st0.view (fun b u e => st0.le _ _ (nlH_same F0 b u e)) fun p e => ?_) rh0.mask g1).mono fun v H1 ⟨as1, F1, μ1, d, o1, s1, r1, e1, e2⟩ => ?_
  · cases hh : nlH F0 p with
    | none => rfl
    | some u =>
      have := nlH_same F0 p u hh
      rw [pur0 p e] at this
      cases this
  subst e1 e2
  have has1 : as1 = [] := List.length_eq_zero_iff.mp (by rw [s1.len]; rfl)
  subst has1
  obtain ⟨a, vs, rfl, hF1a, hvs⟩ := rep_lst_ref r1
  have pur1 : ∀ p, pu = some p → F1 p = none := fun p e => (s1.pur p e).1
  have fresh : ∀ b us, F1 b = some (.lst us) → H0 b = none := fun b us hb => by
    rcases o1.new b (by rw [hb]; exact fun e => nomatch e) with h | h | h
    · cases hh : nlH F0 b with
      | none => exact absurd hh h
      | some u =>
        have := o1.ge.ext _ _ hh
        rw [hb] at this
        cases this
        exact absurd hh (nlH_no F0 b us)
    · exact h
    · cases h
  have keep01 : ∀ b u, F0 b = some u → H1 b = some u := fun b u hb => o1.keep b u (st0.le _ _ hb) (fun hp => by rw [pur0 b hp] at hb; cases hb) (by simp)
  -- the union of what is frozen
  let Fb : Hp := fun b => match F0 b with
    | some o => some o
    | none => F1 b
  have f0b : Same F0 Fb := fun b u hb => by show (match F0 b with | some o => some o | none => F1 b) = _; rw [hb]
  have f1b : Same F1 Fb := fun b u hb => by
    show (match F0 b with | some o => some o | none => F1 b) = _
    cases hh : F0 b with
    | none => exact hb
    | some u' =>
      have e1 := keep01 b u' hh
      rw [s1.le _ _ hb] at e1
      exact e1.symm
  have fbH : Same Fb H1 := fun b u hb => by
    have hb : (match F0 b with | some o => some o | none => F1 b) = some u := hb
    cases hh : F0 b with
    | none => rw [hh] at hb; exact s1.le _ _ hb
    | some u' => rw [hh] at hb; cases hb; exact keep01 b _ hh
  have purb : ∀ p, pu = some p → Fb p = none := fun p e => by
    show (match F0 p with | some o => some o | none => F1 p) = _
    rw [pur0 p e]
    exact pur1 p e
  have sb : Sta pu [] Fb ⟨[], n⟩ H1 := s1.view fbH purb
  obtain ⟨sF1, oF1⟩ := st0.out o1 s1
  have rhb : RhoOk pu [] Fb (ρ.set i (some (.c (.lst L)))) (σ0.set i (some (.ref a))) := (rh0.mono ⟨fun _ _ h => h, f0b⟩).set i (show Rep Fb (.lst L) (.ref a) from Rep.mono f1b _ r1)
  refine WSs.of (pss_cons (ps_if WT.pt WSs.pss WSs.pss) WSs.pss) ?_
  refine (h2 [] Fb ⟨[], n⟩ H1 _ _ _ sb rhb g2).mono fun b H2 ⟨as2, F2, μ2, o2, s2, eb, em⟩ => ?_
  subst eb em
  have has2 : as2 = [] := List.length_eq_zero_iff.mp (by rw [s2.len]; rfl)
  subst has2
  refine iteF (WSs.of pss_nil ?_)
  obtain ⟨sF2, oF2⟩ := sF1.out o2 s2
  have H2b : ∀ b u, F1 b = some u → H2 b = some u := fun b u hb => s2.le _ _ (o2.ge.ext _ _ (f1b _ _ hb))
  have rha : RhoOk pu [] F0 (ρ.set i (some (.c (.adr a)))) (σ0.set i (some (.ref a))) := rh0.set i (show Rep F0 (.adr a) (.ref a) from by simp only [Rep])
  refine WSs.of (pss_cons WS.ps WSs.pss) ?_
  refine WS.mono (h3 [] F0 ⟨[], n⟩ H2 _ _ _ sF2 rha (g3 a)) ⟨fun σ3 H3 hh => ?_, (by rintro v H' ⟨_, _, _, _, _, _, _, q⟩; exact q.elim), (by rintro v H' ⟨_, _, _, _, _, _, _, q⟩; exact q.elim), (by rintro v H' ⟨_, _, _, _, _, _, _, q⟩; exact q.elim)⟩
  obtain ⟨as3, F3, μ3, ρ3, o3, s3, rh3, e3, em3, hl3, hk⟩ := hh
  subst em3
  have has3 : as3 = [] := List.length_eq_zero_iff.mp (by rw [s3.len]; rfl)
  subst has3
  have hlen : ρ.length = σ3.length := hl3.symm.trans rh3.1
  obtain ⟨v3, e5, e6⟩ := rh3.2 i _ e3
  have e6 : v3 = .ref a := by simpa only [RepS, Rep] using e6
  subst e6
  have free3 : ∀ b us, F1 b = some (.lst us) → F3 b = none := fun b us hb => by
    cases hh : F3 b with
    | none => rfl
    | some u =>
      rcases o3.new b (by rw [hh]; exact fun e => nomatch e) with h | h | h
      · exact absurd (st0.le.free (fresh b us hb)) h
      · rw [H2b b _ hb] at h; cases h
      · cases h
  have pnot : ∀ b u, F1 b = some u → pu ≠ some b := fun b u hb hp => by rw [pur1 b hp] at hb; cases hb
  have H3b : Same F1 H3 := fun b u hb => o3.keep b u (H2b b u hb) (pnot b u hb) (by simp)
  have m3 : MidT pu F0 H0 F3 a n H3 := ⟨s3, (oF1.trans oF2).trans o3, fresh a vs hF1a, free3 a vs hF1a, pnot a _ hF1a, vs, H3b _ _ hF1a, by rw [hvs]; omega⟩
  have v1 : Sta pu [] F1 ⟨[], n⟩ H3 := s3.view H3b pur1
  have rhv : RhoOk pu [] F1 (onlyR ρ i (.lst L)) σ3 := RhoOk.only hlen e5 r1
  have after : ∀ H7, MidT pu F0 H0 F3 a n H7 → WSs X (.Expr (.Call (.Attribute (.Name x px5) "append" ap5) [a5] [] cp5) pe5 :: rest) (Ed pu [] F0 H0 N) σ3 H7 := fun H7 m7 => by
    refine WSs.of (pss_cons (ps_expr WE.pe w5) WSs.pss) ?_
    refine raw_app ?_ b5 f5 l5 s5 q5
    have sG : Sta pu [] (fun _ => none) ⟨[], n⟩ H7 := m7.st.view (fun _ _ e => by cases e) fun _ _ => rfl
    have rhG : RhoOk pu [] (fun _ => none) (onlyR ρ i (.adr a)) σ3 := RhoOk.only hlen e5 (by simp only [Rep])
    have hvar : rVar i (onlyR ρ i (.adr a)) ⟨[], n⟩ (fun d μ1 => d = .c (.adr a) ∧ μ1 = ⟨[], n⟩) := by
      unfold rVar
      rw [nth_of (show (onlyR ρ i (.adr a))[i]? = some (some (.c (.adr a))) from List.getElem?_set_self (by rw [List.length_replicate]; exact hil))]
      exact ⟨rfl, rfl⟩
    refine (hv5 [] _ ⟨[], n⟩ H7 σ3 _ _ sG rhG hvar).mono fun v H8 ⟨as8, F8, μ8, d8, o8, s8, r8, e11, e12⟩ => ?_
    subst e11 e12
    have has8 : as8 = [] := List.length_eq_zero_iff.mp (by rw [s8.len]; rfl)
    subst has8
    have r8 : v = .ref a := by simpa only [RepS, Rep] using r8
    subst r8
    have m8 := m7.step o8 s8
    obtain ⟨vs8, h8, hl8⟩ := m8.li
    refine ⟨a, vs8, rfl, h8, ?_⟩
    refine (ha5 [] F8 ⟨[], n⟩ H8 σ3 _ _ s8 (rho_none hlen) ga5).mono fun ys H9 ⟨as9, F9, μ9, ss, o9, s9, r9, e13, e14⟩ => ?_
    subst e14
    have has9 : as9 = [] := List.length_eq_zero_iff.mp (by rw [s9.len]; rfl)
    subst has9
    have m9 := m8.step o9 s9
    obtain ⟨vs9, h9, hl9⟩ := m9.li
    obtain ⟨y, rfl⟩ := one_of (r9.length.trans e13)
    refine ⟨vs9, y, rfl, h9, by show _ < 16777216; omega, ?_⟩
    obtain ⟨s10, o10⟩ := m9.put (u := .lst (vs9 ++ [y])) m9.a0 m9.a3 m9.ap
    exact (hr [] F3 ⟨[], n⟩ _ σ3 _ N s10 (rh3.drop i) hk).mono (Ed.trans o10)
  refine WSs.of (pss_cons (ps_if WT.pt WSs.pss WSs.pss) WSs.pss) ?_
  refine (h4 [] F1 ⟨[], n⟩ H3 σ3 _ _ v1 rhv g4).mono fun b H4 ⟨as4, F4, μ4, o4, s4', hb, em⟩ => ?_
  subst em
  have has4 : as4 = [] := List.length_eq_zero_iff.mp (by rw [s4'.len]; rfl)
  subst has4
  have m4 := m3.step o4 s4'
  cases b with
  | false => exact iteF (WSs.of pss_nil (after H4 m4))
  | true =>
    refine iteT (WSs.of (pss_one (ps_expr WE.pe w4)) ?_)
    refine raw_app ?_ b4 f4 l4 s4 q4
    obtain ⟨M, hM, gM⟩ := g5 (hb rfl)
    refine (he4 [] F4 ⟨[], n⟩ H4 σ3 _ _ s4' (rhv.mono o4.ge) gM).mono fun v H5 ⟨as5, F5, μ5, d5, o5, s5', r5, e7, e8⟩ => ?_
    subst e7 e8
    have has5 : as5 = [] := List.length_eq_zero_iff.mp (by rw [s5'.len]; rfl)
    subst has5
    obtain ⟨b0, us, rfl, hF5, hus⟩ := rep_lst_ref r5
    have m5 := m4.step o5 s5'
    refine ⟨b0, us, rfl, s5'.le _ _ hF5, ?_⟩
    refine (ha4 [] F5 ⟨[], n⟩ H5 σ3 _ _ s5' (rho_none hlen) ga4).mono fun ys H6 ⟨as6, F6, μ6, ss, o6, s6, r6, e9, e10⟩ => ?_
    subst e10
    have has6 : as6 = [] := List.length_eq_zero_iff.mp (by rw [s6.len]; rfl)
    subst has6
    obtain ⟨y, rfl⟩ := one_of (r6.length.trans e9)
    refine ⟨us, y, rfl, s6.le _ _ (o6.ge.ext _ _ hF5), by show _ < 16777216; omega, ?_⟩
    have hnew : H0 b0 = none ∧ F3 b0 = none := by
      rcases (o4.trans o5).new b0 (by rw [hF5]; exact fun e => nomatch e) with h | h | h
      · cases hh : F1 b0 with
        | none => exact absurd hh h
        | some u =>
          have := (o4.trans o5).ge.ext _ _ hh
          rw [hF5] at this
          cases this
          exact ⟨fresh b0 us hh, free3 b0 us hh⟩
      · refine ⟨?_, s3.le.free h⟩
        cases hh : H0 b0 with
        | none => rfl
        | some u => exact absurd h (m3.o.alive b0 (by rw [hh]; exact fun e => nomatch e))
      · cases h
    have hpb : pu ≠ some b0 := fun hp => by
      rw [(s5'.pur b0 hp).1] at hF5
      cases hF5
    exact after _ ((m5.step o6 s6).upd hnew.1 hnew.2 hpb (by rw [List.length_append, List.length_singleton, hus]; omega))
end
end DL
/-! ## KS10 -/
namespace DL
open PySem PySem.Spec PyProof.Rows L2
local macro_rules | `(tactic| walk_at "d") => `(tactic| simp only [rSeq, rSet, rRet, rIfS, rFor, rDrop, rNext, rDead, rBrk, rCont, rPur, rPurSet, rVar, rC, rBin, rCh, rAndV, rOrV, rNotV, rAnd, rOr, rNot, rIf, rT, rCB, rCons, rNil, rCall, rIsi, rIsi2, rIsiC, rSl, rNo, rPt, rNeg, rRev, rTup, rLst, rLstH, rDctH, rDct0, rDisp, rDispH, rP0, rP1, rPar, rPar3, rUnp, rAsg, rAug, iIt, iRng, iRng2, iItems, iVals, iZip, gNm, rMut, rPut, rFrz, rLC, rSetLc, rDc, rDcH, rDC, rYes, rStar, rMeth0, rMake, rFldSet, rEqO, rTur, rJoin, rBits, rIndexD, rList_values, rList_items, rFld, rLC2, rIn, wipeR, br_t, br_f, rho0, ends, endsI, q_sel, q_isB, q_isPur, q_isI, q_strD, q_lstD, q_dkD, q_dkS, q_argS0, q_argSc, q_argSp, q_coldS, q_onS, q_noTy_non, q_noTy_bl, q_noTy_int, q_noTy_str, q_noTy_lst, q_noTy_tup, q_noTy_dk, q_noTy_obj, q_addI, q_addS, q_addL, q_addT, q_intD, q_ltI, q_ltS, q_g1, q_g2, q_lenL, q_lenT, q_lenK, q_lenS, q_intOf, q_listL, q_listT, q_listK, q_listS, q_iterL, q_iterT, q_iterK, q_iterS, q_ixL, q_ixT, q_ixS, q_ixK, q_slS, q_slL, q_inL, q_inK, q_inS, q_inV, q_ninV, q_eqD, q_neD, q_rdC, q_rdH, q_hotL, q_hotK, q_setM0, q_setM1, q_nth0, q_nthS, q_colds0, q_colds1, q_keyI, q_keyS, q_app, q_ins, q_gTp, q_gLs, q_gCs, q_gNl, q_frz0, q_frz1, q_thN, q_thC, q_thP, q_thH, q_putS, q_objS, q_fld, q_objP, q_zipL, q_zipT, q_all, q_any, q_kit_NoneType_bool, q_kit_NoneType_int, q_kit_NoneType_str, q_kit_NoneType_list, q_kit_NoneType_tuple, q_kit_NoneType_dict, q_kit_bool_bool, q_kit_bool_int, q_kit_bool_str, q_kit_bool_list, q_kit_bool_tuple, q_kit_bool_dict, q_kit_int_bool, q_kit_int_int, q_kit_int_str, q_kit_int_list, q_kit_int_tuple, q_kit_int_dict, q_kit_str_bool, q_kit_str_int, q_kit_str_str, q_kit_str_list, q_kit_str_tuple, q_kit_str_dict, q_kit_list_bool, q_kit_list_int, q_kit_list_str, q_kit_list_list, q_kit_list_tuple, q_kit_list_dict, q_kit_tuple_bool, q_kit_tuple_int, q_kit_tuple_str, q_kit_tuple_list, q_kit_tuple_tuple, q_kit_tuple_dict, q_kit_dict_bool, q_kit_dict_int, q_kit_dict_str, q_kit_dict_list, q_kit_dict_tuple, q_kit_dict_dict, List.map_cons, List.map_nil, List.length_cons, List.length_nil, List.append_nil, List.cons_append, List.nil_append, List.set_cons_zero, List.set_cons_succ, List.replicate_succ, List.replicate_zero, Nat.reduceSub, Nat.reduceAdd, tyN, List.getD_cons_zero, List.getD_cons_succ, if_true, if_false, true_and, and_true, Nat.zero_add, List.set_nil, Bool.not_true, Bool.not_false])
/-- a list of texts, those that stay -/
theorem runC_strs {p : Str → Bool} {body : D → (Option D → Mu → Prop) → Mu → Prop} {μ : Mu} {k : List D → Mu → Prop} (xs : List Str) (hb : ∀ z ∈ xs, ∀ K : Option D → Mu → Prop, K (if p z then some (.str z) else none) μ → body (.str z) K μ) (h : k ((xs.filter p).map D.str) μ) : runC body (xs.map D.str) [] μ k := by
  refine runC_pure (fun d => if p (unS d) then some d else none) _ _ (fun d hd K hK => ?_) ?_
  · obtain ⟨z, hz, rfl⟩ := List.mem_map.mp hd
    exact hb z hz K hK
  have e : ∀ l : List Str, (l.map D.str).filterMap (fun d => if p (unS d) then some d else none) = (l.filter p).map D.str := fun l => by
    induction l with
    | nil => rfl
    | cons x l ih =>
      rw [List.map_cons, List.filterMap_cons, List.filter_cons, ih]
      have u : unS (.str x) = x := rfl
      rw [u]
      by_cases hx : p x = true <;> simp [hx]
  rw [List.nil_append, e]
  exact h
/-- texts to truth values -/
theorem runC_test {g : Str → Bool} {body : D → (Option D → Mu → Prop) → Mu → Prop} {μ : Mu} {k : List D → Mu → Prop} (xs : List Str) (hb : ∀ z ∈ xs, ∀ K : Option D → Mu → Prop, K (some (.bl (g z))) μ → body (.str z) K μ) (h : k ((xs.map g).map D.bl) μ) : runC body (xs.map D.str) [] μ k := by
  refine runC_pure (fun d => some (.bl (g (unS d)))) _ _ (fun d hd K hK => ?_) ?_
  · obtain ⟨z, hz, rfl⟩ := List.mem_map.mp hd
    exact hb z hz K hK
  have e : ∀ l : List Str, (l.map D.str).filterMap (fun d => some (D.bl (g (unS d)))) = (l.map g).map D.bl := fun l => by
    induction l with
    | nil => rfl
    | cons x l ih => rw [List.map_cons, List.filterMap_cons, ih]; rfl
  rw [List.nil_append, e]
  exact h
/-- a dict comprehension over given keys, those that stay -/
theorem runA_strs {α : Type} {f : α → D} {body : D → List (Key × D) → Mu → KvK → Prop} {μ : Mu} {kk : KvK} (p : Str → Bool) (g : Str → α) : ∀ (ks : List Str) (acc : List (Str × α)), (acc.map (·.1) ++ ks).Nodup → (∀ k ∈ ks, ∀ (acc : List (Key × D)) (K : KvK), K (if p k then putD acc (.inr k) (f (g k)) else acc) μ → body (.str k) acc μ K) →
    kk (eT f (acc ++ (ks.filter p).map fun k => (k, g k))) μ → runA body (ks.map D.str) (eT f acc) μ kk
  | [], acc, _, _, h => by simpa [runA] using h
  | k :: ks, acc, nd, hb, h => by
    rw [List.map_cons]
    refine hb k (by simp) _ _ ?_
    have hnew : k ∉ acc.map (·.1) := fun hp => by
      rw [List.nodup_append] at nd
      exact nd.2.2 k hp k (by simp) rfl
    by_cases hk : p k = true
    · rw [if_pos hk, putD_e, putT_new hnew]
      refine runA_strs p g ks _ (by simpa using nd) (fun k' h' => hb k' (by simp [h'])) ?_
      simpa [hk] using h
    · rw [if_neg hk]
      refine runA_strs p g ks _ ?_ (fun k' h' => hb k' (by simp [h'])) ?_
      · exact nd.sublist (List.Sublist.append (List.Sublist.refl _) (List.sublist_cons_self _ _))
      · simpa [hk] using h
theorem rd_last {x y : D} {xs : List D} {n : Nat} : Mu.rd ⟨x :: (xs ++ [y]), n⟩ (.hot (xs.length + 1)) = y := by
  show (x :: (xs ++ [y])).getD (xs.length + 1) _ = y
  simp
/-- a loop over texts -/
theorem runF_strs {body : D → RS} {N : EndsD} {ρ : Rho} {μ : Mu} (zs0 : List Str) (Inv : List Str → Rho → Mu → Prop) (start : Inv [] ρ μ)
    (step : ∀ dn z zs ρ μ (k : Rho → Mu → Prop), zs0 = dn ++ z :: zs → Inv dn ρ μ → (∀ ρ' μ', Inv (dn ++ [z]) ρ' μ' → k ρ' μ') → body (.str z) { nx := k, ct := k, bk := N.nx, rt := N.rt } ρ μ)
    (done : ∀ ρ' μ', Inv zs0 ρ' μ' → N.nx ρ' μ') : runF body (zs0.map D.str) N ρ μ := by
  have A : ∀ d ds ρ μ (k : Rho → Mu → Prop), (∀ ρ' μ', (∃ dn zs, ds = zs.map D.str ∧ zs0 = dn ++ zs ∧ Inv dn ρ' μ') → k ρ' μ') → (∃ dn zs, d :: ds = zs.map D.str ∧ zs0 = dn ++ zs ∧ Inv dn ρ μ) → body d { nx := k, ct := k, bk := N.nx, rt := N.rt } ρ μ := by
    rintro d ds ρ μ k hk ⟨dn, zs, e1, e2, hi⟩
    cases zs with
    | nil => cases e1
    | cons z zs =>
      rw [List.map_cons, List.cons.injEq] at e1
      obtain ⟨rfl, rfl⟩ := e1
      exact step dn z zs ρ μ k e2 hi fun ρ' μ' h' => hk ρ' μ' ⟨dn ++ [z], zs, rfl, by simpa using e2, h'⟩
  have B : ∀ ρ' μ', (∃ dn zs, [] = zs.map D.str ∧ zs0 = dn ++ zs ∧ Inv dn ρ' μ') → N.nx ρ' μ' := by
    rintro ρ' μ' ⟨dn, zs, e1, e2, hi⟩
    cases zs with
    | nil =>
      rw [List.append_nil] at e2
      subst e2
      exact done ρ' μ' hi
    | cons z zs => cases e1
  exact runF_ind (fun ds ρ μ => ∃ dn zs, ds = zs.map D.str ∧ zs0 = dn ++ zs ∧ Inv dn ρ μ) A B _ _ _ ⟨[], zs0, rfl, rfl, start⟩
theorem it_strs {xs : List Str} {k : List D → Prop} : iterD (eStrs xs) k = k (xs.map D.str) := rfl
theorem ix_book {b : Book} {z : Str} {k : D → Prop} (h : z ∈ b.map (·.1)) : ixD (eBook b) (.str z) k = k (eRow (getT b z)) := by
  rw [e_book, q_ixK, getK_e (f := eRow) h, q_onS]
theorem ix_row0 {r : Row} {k : D → Prop} : ixD (eRow r) (.int 0) k = k (.str r.kind) := by
  unfold eRow
  rw [q_ixT, atI_zero, q_onS]
theorem ix_row1 {r : Row} {k : D → Prop} : ixD (eRow r) (.int 1) k = k (eTurns r.turns) := by
  unfold eRow
  rw [q_ixT, atI_one, q_onS]
theorem dk_turns {t : List (Str × Str)} {k : List (Key × D) → Prop} : dkD (eTurns t) k = k (eT D.str t) := rfl
theorem eT_snd {t : List (Str × Str)} : (eT D.str t).map (fun x => x.snd) = (t.map (·.2)).map D.str := by unfold eT; simp
theorem eqb_lnil {xs : List Str} : eqb (eStrs xs) (.lst []) = decide (xs = []) := by
  cases xs with
  | nil => rfl
  | cons x xs => simp [eStrs, eqb, eqbs]
theorem ne_lnil {xs : List Str} : neOk (eStrs xs) (.lst []) = true := by
  unfold neOk eStrs
  simp [seqD, seqs_strs, seqDs, dep, deps_strs]
theorem put_last {x y d : D} {xs : List D} {n : Nat} : putS ⟨x :: (xs ++ [y]), n⟩ (xs.length + 1) d = ⟨x :: (xs ++ [d]), n⟩ := by
  rw [q_putS]
  simp
theorem tell_last {x : D} {rest : List D} {zs : List Str} {z : Str} {n : Nat} {k : Mu → Prop} (hl : zs.length < lim) (h : k ⟨x :: (rest ++ [eStrs (zs ++ [z])]), n⟩) :
    lstD (Mu.rd ⟨x :: (rest ++ [eStrs zs]), n⟩ (.hot (rest.length + 1))) fun _ => lstD (Mu.rd ⟨x :: (rest ++ [eStrs zs]), n⟩ (.hot (rest.length + 1))) fun ds => ds.length < lim ∧ k (putS ⟨x :: (rest ++ [eStrs zs]), n⟩ (rest.length + 1) (.lst (ds ++ [.str z]))) := by
  rw [rd_last]
  refine ⟨by simpa using hl, ?_⟩
  rw [put_last, strs_snoc]
  exact h
/-- a state that has a rank next -/
def nearB (b : Book) (left keys : List Str) (s : Str) : Bool := ((getT b s).turns.any fun t => decide (t.2 ∈ keys)) && (decide ((getT b s).kind = ("hears" : Str)) || (getT b s).turns.all fun t => decide (t.2 ∈ left))
def freshL (b : Book) (left keys : List Str) : List Str := left.filter fun s => decide (s ∉ keys) && nearB b left keys s
theorem ranked_pass (a : Addr) {b : Book} {left : List Str} {rk : List (Str × Int)} {rest : List D} {n : Nat} {dp : Int} {x5 x6 x7 x8 x9 : Option S} {N : EndsD} (ok : OkBook b) (nd : left.Nodup) (hin : ∀ s ∈ left, s ∈ b.map (·.1)) (hl : left.length ≤ 6) (hd : 0 ≤ dp ∧ dp < 50) (hrk : rk.length ≤ 6)
    (q : ∀ rest' x5 x6 x7 x8 x9, N.nx [some (.c (eBook b)), some (.c (eStrs left)), some (.hot 0), some (.c (.int (dp + 1))), some (.c (.bl (!decide (freshL b left (rk.map (·.1)) = [])))), x5, x6, x7, x8, x9] ⟨.dk (eT D.int (rk ++ (freshL b left (rk.map (·.1))).map fun s => (s, dp + 1))) :: rest', n⟩) :
    t_ranked_1_b a N [some (.c (eBook b)), some (.c (eStrs left)), some (.hot 0), some (.c (.int dp)), some (.c (.bl true)), x5, x6, x7, x8, x9] ⟨.dk (eT D.int rk) :: rest, n⟩ := by
  unfold t_ranked_1_b
  walk_at "d"
  unfold t_ranked_1_b_1
  walk_at "d"
  unfold t_ranked_1_b_2
  walk_at "d"
  have hr : ∀ z, inD (.str z) (.dk (eT D.int rk)) = fun k => k (decide (z ∈ rk.map (·.1))) := fun z => by
    funext k
    rw [q_inK, hasK_e]
  refine ⟨by simp [lim], ?_⟩
  rw [it_strs]
  refine ⟨by simp [lim]; omega, ?_⟩
  refine runC_strs (p := fun z => decide (z ∉ rk.map (·.1))) left (fun z hz K hK => ?_) ?_
  · walk_at "d"
    rw [hasK_e]
    by_cases h : z ∈ rk.map (·.1)
    · rw [decide_eq_true h]
      rw [decide_eq_false (not_not_intro h)] at hK
      exact br_f.mpr hK
    · rw [decide_eq_false h]
      rw [decide_eq_true h] at hK
      exact br_t.mpr hK
  refine runF_strs _ (fun dn ρ μ => ∃ x6 x7 x8 x9, ρ = [some (S.c (eBook b)), some (S.c (eStrs left)), some (S.hot 0), some (S.c (D.int (dp + 1))), some (.c (.bl true)), some (S.hot (rest.length + 1)), x6, x7, x8, x9] ∧ μ = ⟨D.dk (eT D.int rk) :: (rest ++ [eStrs (dn.filter (nearB b left (rk.map (·.1))))]), n⟩) ⟨x6, x7, x8, x9, rfl, rfl⟩ ?_ ?_
  · rintro dn z zs ρ μ k e ⟨x6, x7, x8, x9, rfl, rfl⟩ hk
    have hz : z ∈ left := by
      have : z ∈ left.filter (fun z => decide (z ∉ rk.map (·.1))) := by rw [e]; simp
      exact (List.mem_filter.mp this).1
    unfold t_ranked_1_b_2_b
    walk_at "d"
    rw [ix_book (hin z hz), ix_row0, ix_book (hin z hz), ix_row1, dk_turns, eT_snd]
    unfold t_ranked_1_b_2_b_1
    walk_at "d"
    have tl : ((getT b z).turns.map (·.2)).length ≤ 6 := by
      have := (ok.row _ (getT_mem (hin z hz)).1).len
      simpa using this
    have dl : dn.length ≤ 6 := by
      have h1 : (dn ++ z :: zs).length ≤ left.length := e ▸ List.length_filter_le _ _
      simp at h1; omega
    have fl : (dn.filter (nearB b left (rk.map (·.1)))).length < lim := by
      have := List.length_filter_le (nearB b left (rk.map (·.1))) dn
      have : 6 < lim := by simp [lim]
      omega
    have gy : nearB b left (rk.map (·.1)) z = true → dn.filter (nearB b left (rk.map (·.1))) ++ [z] = (dn ++ [z]).filter (nearB b left (rk.map (·.1))) := fun h => by simp [h]
    have gn : nearB b left (rk.map (·.1)) z = false → dn.filter (nearB b left (rk.map (·.1))) = (dn ++ [z]).filter (nearB b left (rk.map (·.1))) := fun h => by simp [h]
    have b1 : (((getT b z).turns.map (·.2)).map (fun z => decide (z ∈ rk.map (·.1)))).any (fun b => b) = (getT b z).turns.any fun t => decide (t.2 ∈ rk.map (·.1)) := by rw [List.any_map, List.any_map]; rfl
    have b2 : (((getT b z).turns.map (·.2)).map (fun z => decide (z ∈ left))).all (fun b => b) = (getT b z).turns.all fun t => decide (t.2 ∈ left) := by rw [List.all_map, List.all_map]; rfl
    refine ⟨by simp [lim] at tl ⊢; omega, ?_⟩
    refine runC_test (g := fun z => decide (z ∈ rk.map (·.1))) _ (fun u hu K hK => ?_) ⟨_, rfl, ?_⟩
    · walk_at "d"
      rw [hasK_e]
      exact hK
    rw [b1]
    have ch : cmpOk (D.str (getT b z).kind) (D.str (Str.ofString "hears")) = true := rfl
    refine br_i (fun h1 => ⟨ch, ?_⟩) fun h1 => hk _ _ ⟨_, _, _, _, rfl, by rw [← gn (by unfold nearB; rw [h1]; rfl)]⟩
    rw [eqb_ss]
    refine br_i (fun h2 => ?_) fun h2 => ⟨by simp [lim] at tl ⊢; omega, ?_⟩
    · refine tell_last fl (hk _ _ ⟨_, _, _, _, rfl, ?_⟩)
      rw [gy]
      unfold nearB
      rw [h1, show decide ((getT b z).kind = "hears") = true from h2]
      rfl
    refine runC_test (g := fun z => decide (z ∈ left)) _ (fun u hu K hK => in_strs hK) ⟨_, rfl, ?_⟩
    rw [b2]
    refine br_i (fun h3 => ?_) fun h3 => hk _ _ ⟨_, _, _, _, rfl, by rw [← gn (by unfold nearB; rw [h1, h3, show decide ((getT b z).kind = "hears") = false from h2]; rfl)]⟩
    refine tell_last fl (hk _ _ ⟨_, _, _, _, rfl, ?_⟩)
    rw [gy]
    unfold nearB
    rw [h1, h3]
    simp
  · rintro ρ μ ⟨x6, x7, x8, x9, rfl, rfl⟩
    unfold t_ranked_1_b_3
    walk_at "d"
    have e0 : ¬ 0 = rest.length + 1 := by omega
    have ff : List.filter (nearB b left (List.map (fun x => x.fst) rk)) (List.filter (fun z => decide ¬z ∈ List.map (fun x => x.fst) rk) left) = freshL b left (rk.map (·.1)) := by
      unfold freshL
      rw [List.filter_filter]
      congr 1
      funext z
      rw [Bool.and_comm]
    simp only [if_neg e0, ff]
    rw [show (rest ++ [eStrs (freshL b left (rk.map (·.1)))]).getD rest.length (D.ty "") = eStrs (freshL b left (rk.map (·.1))) by simp]
    show runF _ ((freshL b left (rk.map (·.1))).map D.str) _ _ _
    generalize hfr : freshL b left (rk.map (·.1)) = fr at *
    have frn : ∀ z ∈ fr, z ∉ rk.map (·.1) := fun z hz h => by
      rw [← hfr] at hz
      have := (List.mem_filter.mp hz).2
      simp only [Bool.and_eq_true, decide_eq_true_eq] at this
      exact this.1 h
    have frd : fr.Nodup := by rw [← hfr]; exact nd.sublist (List.filter_sublist)
    refine runF_strs fr (fun dn ρ μ => ∃ rest' x6 x7 x8 x9, ρ = [some (S.c (eBook b)), some (S.c (eStrs left)), some (S.hot 0), some (S.c (D.int (dp + 1))), some (S.c (D.bl true)), some (S.c (eStrs fr)), x6, x7, x8, x9] ∧ μ = ⟨D.dk (eT D.int (rk ++ dn.map fun s => (s, dp + 1))) :: rest', n⟩) ⟨rest ++ [.ty ""], _, _, _, _, rfl, by simp⟩ ?_ ?_
    · rintro dn z zs ρ μ k e ⟨rest', x6, x7, x8, x9, rfl, rfl⟩ hk
      unfold t_ranked_1_b_3_b
      walk_at "d"
      have hz : z ∈ fr := by rw [e]; simp
      have dl : dn.length ≤ 6 := by
        have h1 : fr.length ≤ left.length := by rw [← hfr]; exact List.length_filter_le _ _
        rw [e] at h1
        simp at h1; omega
      refine ⟨by simp [eT, lim]; omega, ?_⟩
      rw [putD_e (f := D.int), putT_new]
      · exact hk _ _ ⟨rest', _, _, _, _, rfl, by simp⟩
      intro hm
      rw [List.map_append, List.mem_append, List.map_map] at hm
      rcases hm with hm | hm
      · exact frn z hz hm
      · obtain ⟨y, hy, rfl⟩ := List.mem_map.mp hm
        rw [e, List.nodup_append] at frd
        exact frd.2.2 _ hy _ (by simp) rfl
    · rintro ρ μ ⟨rest', x6, x7, x8, x9, rfl, rfl⟩
      unfold t_ranked_1_b_4
      walk_at "d"
      refine ⟨by simp [lim], ne_lnil, ?_⟩
      rw [eqb_lnil]
      exact q _ _ _ _ _ _
theorem while_i {tc : RT} {tb : RS} {N : EndsD} {ρ : Rho} {μ : Mu} (I : Nat → Rho → Mu → Prop) (m : Nat) (h0 : I m ρ μ) (hs : ∀ m ρ μ, I m ρ μ → tc ρ μ fun b μ1 => br b (tb { nx := fun ρ' μ' => ∃ m', m' < m ∧ I m' ρ' μ', ct := fun ρ' μ' => ∃ m', m' < m ∧ I m' ρ' μ', bk := N.nx, rt := N.rt } ρ μ1) (N.nx ρ μ1)) : rWhile tc tb N ρ μ := ⟨I, ⟨m, h0⟩, hs⟩
theorem mem_fresh {b : Book} {left keys : List Str} {s : Str} : s ∈ freshL b left keys ↔ s ∈ left ∧ s ∉ keys ∧ nearB b left keys s = true := by
  unfold freshL
  rw [List.mem_filter, Bool.and_eq_true, decide_eq_true_eq]
theorem near_iff {b : Book} {left keys : List Str} {s : Str} : nearB b left keys s = true ↔ (∃ t ∈ (getT b s).turns, t.2 ∈ keys) ∧ ((getT b s).kind = ("hears" : Str) ∨ ∀ t ∈ (getT b s).turns, t.2 ∈ left) := by
  unfold nearB
  simp only [Bool.and_eq_true, Bool.or_eq_true, List.any_eq_true, List.all_eq_true, decide_eq_true_eq]
theorem reach_sub {b : Book} {left keys : List Str} (nd : (b.map (·.1)).Nodup) (h1 : ∀ s ∈ left, (getT b s).kind = ("done" : Str) → s ∈ keys) (h2 : freshL b left keys = []) {s : Str} (h : Reach b (· ∈ left) s) : s ∈ keys := by
  induction h with
  | done hb hl hk =>
    refine h1 _ hl ?_
    rw [find_getT nd hb]
    exact hk
  | step hb hl ht hr hk ih =>
    refine Classical.byContradiction fun hn => ?_
    have : _ ∈ freshL b left keys := mem_fresh.mpr ⟨hl, hn, near_iff.mpr (by rw [find_getT nd hb]; exact ⟨⟨_, ht, ih⟩, hk⟩)⟩
    rw [h2] at this
    cases this
theorem reach_of {b : Book} {left keys : List Str} (hin : ∀ s ∈ left, s ∈ b.map (·.1)) (h : ∀ s ∈ keys, Reach b (· ∈ left) s) {s : Str} (hs : s ∈ freshL b left keys) : Reach b (· ∈ left) s := by
  obtain ⟨hl, _, hn⟩ := mem_fresh.mp hs
  obtain ⟨⟨t, ht, htk⟩, hk⟩ := near_iff.mp hn
  exact .step (getT_mem (hin s hl)).1 hl ht (h _ htk) hk
theorem fresh_nd {b : Book} {left keys : List Str} (nd : left.Nodup) (h : keys.Nodup) : (keys ++ freshL b left keys).Nodup := by
  rw [List.nodup_append]
  refine ⟨h, nd.sublist (List.filter_sublist), fun x hx y hy e => ?_⟩
  subst e
  exact (mem_fresh.mp hy).2.1 hx
def rkI (b : Book) (left : List Str) (n : Nat) (m : Nat) (ρ : Rho) (μ : Mu) : Prop := ∃ (rk : List (Str × Int)) (rest : List D) (dp : Int) (more : Bool) (x5 x6 x7 x8 x9 : Option S),
  ρ = [some (.c (eBook b)), some (.c (eStrs left)), some (.hot 0), some (.c (.int dp)), some (.c (.bl more)), x5, x6, x7, x8, x9] ∧ μ = ⟨.dk (eT D.int rk) :: rest, n⟩ ∧
  (rk.map (·.1)).Nodup ∧ (∀ s ∈ rk.map (·.1), s ∈ left) ∧ (∀ s ∈ left, (getT b s).kind = ("done" : Str) → s ∈ rk.map (·.1)) ∧ (∀ s ∈ rk.map (·.1), Reach b (· ∈ left) s) ∧ (more = false → freshL b left (rk.map (·.1)) = []) ∧ 0 ≤ dp ∧ dp + m ≤ 20 ∧ (more = true → left.length + 1 ≤ m + rk.length)
theorem w_ranked (a : Addr) : ∀ ss n kk, sp_ranked a ss n kk → t_ranked a (ends kk) (rho0 N_ranked ss) ⟨[], n⟩ := by
  rintro ss n kk ⟨b, left, rfl, ok, nd, hin, q⟩
  have hl : left.length ≤ 6 := by
    have h1 := nodup_le nd hin
    have := ok.len
    simp at h1; omega
  unfold t_ranked
  walk_at "d"
  rw [it_strs]
  refine ⟨by simp [lim]; omega, ?_⟩
  refine runA_strs (f := D.int) (fun s => decide ((getT b s).kind = ("done" : Str))) (fun _ => 0) left [] (by simpa using nd) (fun z hz acc K hK => ?_) ?_
  · unfold dcB
    walk_at "d"
    rw [ix_book (hin z hz), ix_row0]
    refine ⟨rfl, ?_⟩
    rw [eqb_ss]
    by_cases h : (getT b z).kind = ("done" : Str)
    · rw [if_pos (by simpa using h)] at hK
      rw [show decide ((getT b z).kind = Str.ofString "done") = true from decide_eq_true h]
      exact br_t.mpr hK
    · rw [if_neg (by simpa using h)] at hK
      rw [show decide ((getT b z).kind = Str.ofString "done") = false from decide_eq_false h]
      exact br_f.mpr hK
  refine ⟨by decide, ?_⟩
  unfold t_ranked_1
  generalize hf : left.filter (fun s => decide ((getT b s).kind = ("done" : Str))) = dl
  have dm : ∀ s, s ∈ dl ↔ s ∈ left ∧ (getT b s).kind = ("done" : Str) := fun s => by rw [← hf, List.mem_filter, decide_eq_true_eq]
  have ks : (([] : List (Str × Int)) ++ dl.map fun k => (k, (0 : Int))).map (·.1) = dl := by simp [List.map_map, Function.comp_def]
  refine while_i (rkI b left n) 7 ⟨[] ++ dl.map fun k => (k, 0), [], 0, true, _, _, _, _, _, rfl, rfl, ?_, ?_, ?_, ?_, ?_, by omega, by omega, fun _ => by omega⟩ ?_
  · rw [ks, ← hf]
    exact nd.sublist List.filter_sublist
  · rw [ks]
    exact fun s hs => ((dm s).mp hs).1
  · rw [ks]
    exact fun s h1 h2 => (dm s).mpr ⟨h1, h2⟩
  · rw [ks]
    exact fun s hs => .done (getT_mem (hin s ((dm s).mp hs).1)).1 ((dm s).mp hs).1 ((dm s).mp hs).2
  · intro h; cases h
  · rintro m ρ μ ⟨rk, rest, dp, more, x5, x6, x7, x8, x9, rfl, rfl, i1, i2, i3, i4, i5, i6, i7, i8⟩
    have hkl : rk.length ≤ left.length := by
      have := nodup_le i1 i2
      simpa using this
    walk_at "d"
    cases more with
    | true =>
      refine br_t.mpr ?_
      refine ranked_pass a ok nd hin hl ⟨i6, by omega⟩ (by omega) fun rest' x5 x6 x7 x8 x9 => ?_
      have m1 := i8 rfl
      have ke : (rk ++ (freshL b left (rk.map (·.1))).map fun s => (s, dp + 1)).map (·.1) = rk.map (·.1) ++ freshL b left (rk.map (·.1)) := by simp [List.map_map, Function.comp_def]
      have nd' := fresh_nd (b := b) nd i1
      have sub : ∀ s ∈ rk.map (·.1) ++ freshL b left (rk.map (·.1)), s ∈ left := fun s hs => (List.mem_append.mp hs).elim (i2 s) fun h => (mem_fresh.mp h).1
      have hkl' := nodup_le nd' sub
      rw [List.length_append, List.length_map] at hkl'
      refine ⟨m - 1, by omega, _, _, _, _, _, _, _, _, _, rfl, rfl, ?_, ?_, ?_, ?_, ?_, by omega, by omega, ?_⟩
      · rw [ke]; exact nd'
      · rw [ke]; exact sub
      · rw [ke]; exact fun s h1 h2 => List.mem_append_left _ (i3 s h1 h2)
      · rw [ke]; exact fun s hs => (List.mem_append.mp hs).elim (i4 s) (reach_of hin i4)
      · intro h
        simp only [Bool.not_eq_false', decide_eq_true_eq] at h
        rw [ke, h, List.append_nil]
        exact h
      · intro h
        simp only [Bool.not_eq_true', decide_eq_false_iff_not] at h
        have : 0 < (freshL b left (rk.map (·.1))).length := List.length_pos_iff.mpr h
        rw [List.length_append, List.length_map]
        omega
    | false =>
      refine br_f.mpr ?_
      unfold t_ranked_2
      walk_at "d"
      exact q rk i1 fun s => ⟨i4 s, reach_sub ok.nd i3 (i5 rfl)⟩
end DL
/-! ## KS11 -/
namespace DL
open PySem PySem.Spec PyProof.Rows L2
local macro_rules | `(tactic| walk_at "d") => `(tactic| simp only [rSeq, rSet, rRet, rIfS, rFor, rDrop, rNext, rDead, rBrk, rCont, rPur, rPurSet, rVar, rC, rBin, rCh, rAndV, rOrV, rNotV, rAnd, rOr, rNot, rIf, rT, rCB, rCons, rNil, rCall, rIsi, rIsi2, rIsiC, rSl, rNo, rPt, rNeg, rRev, rTup, rLst, rLstH, rDctH, rDct0, rDisp, rDispH, rP0, rP1, rPar, rPar3, rUnp, rAsg, rAug, iIt, iRng, iRng2, iItems, iVals, iZip, gNm, rMut, rPut, rFrz, rLC, rSetLc, rDc, rDcH, rDC, rYes, rStar, rMeth0, rMake, rFldSet, rEqO, rTur, rJoin, rBits, rIndexD, rList_values, rList_items, rFld, rLC2, rIn, wipeR, br_t, br_f, rho0, ends, endsI, q_sel, q_isB, q_isPur, q_isI, q_strD, q_lstD, q_dkD, q_dkS, q_argS0, q_argSc, q_argSp, q_coldS, q_onS, q_noTy_non, q_noTy_bl, q_noTy_int, q_noTy_str, q_noTy_lst, q_noTy_tup, q_noTy_dk, q_noTy_obj, q_addI, q_addS, q_addL, q_addT, q_intD, q_ltI, q_ltS, q_g1, q_g2, q_lenL, q_lenT, q_lenK, q_lenS, q_intOf, q_listL, q_listT, q_listK, q_listS, q_iterL, q_iterT, q_iterK, q_iterS, q_ixL, q_ixT, q_ixS, q_ixK, q_slS, q_slL, q_inL, q_inK, q_inS, q_inV, q_ninV, q_eqD, q_neD, q_rdC, q_rdH, q_hotL, q_hotK, q_setM0, q_setM1, q_nth0, q_nthS, q_colds0, q_colds1, q_keyI, q_keyS, q_app, q_ins, q_gTp, q_gLs, q_gCs, q_gNl, q_frz0, q_frz1, q_thN, q_thC, q_thP, q_thH, q_putS, q_objS, q_fld, q_objP, q_zipL, q_zipT, q_all, q_any, q_kit_NoneType_bool, q_kit_NoneType_int, q_kit_NoneType_str, q_kit_NoneType_list, q_kit_NoneType_tuple, q_kit_NoneType_dict, q_kit_bool_bool, q_kit_bool_int, q_kit_bool_str, q_kit_bool_list, q_kit_bool_tuple, q_kit_bool_dict, q_kit_int_bool, q_kit_int_int, q_kit_int_str, q_kit_int_list, q_kit_int_tuple, q_kit_int_dict, q_kit_str_bool, q_kit_str_int, q_kit_str_str, q_kit_str_list, q_kit_str_tuple, q_kit_str_dict, q_kit_list_bool, q_kit_list_int, q_kit_list_str, q_kit_list_list, q_kit_list_tuple, q_kit_list_dict, q_kit_tuple_bool, q_kit_tuple_int, q_kit_tuple_str, q_kit_tuple_list, q_kit_tuple_tuple, q_kit_tuple_dict, q_kit_dict_bool, q_kit_dict_int, q_kit_dict_str, q_kit_dict_list, q_kit_dict_tuple, q_kit_dict_dict, List.map_cons, List.map_nil, List.length_cons, List.length_nil, List.append_nil, List.cons_append, List.nil_append, List.set_cons_zero, List.set_cons_succ, List.replicate_succ, List.replicate_zero, Nat.reduceSub, Nat.reduceAdd, tyN, List.getD_cons_zero, List.getD_cons_succ, if_true, if_false, true_and, and_true, Nat.zero_add, List.set_nil, Bool.not_true, Bool.not_false])
theorem Reach.mono {b : Book} {L M : Str → Prop} (h : ∀ s, L s → M s) {s : Str} (r : Reach b L s) : Reach b M s := by
  induction r with
  | done hb hl hk => exact .done hb (h _ hl) hk
  | step hb hl ht hr hk ih => exact .step hb (h _ hl) ht ih (hk.imp id fun g u hu => h _ (g u hu))
theorem Reach.here {b : Book} {L : Str → Prop} {s : Str} (r : Reach b L s) : L s := by
  cases r <;> assumption
theorem viab_left {b : Book} {left : List Str} (h : ∀ s, Viab b s → s ∈ left) {s : Str} (hs : Viab b s) : Reach b (· ∈ left) s := by
  obtain ⟨L, hL, hls⟩ := hs
  exact (hL s hls).mono fun u hu => h u ⟨L, hL, hu⟩
theorem nodup_full : ∀ {xs ys : List Str}, xs.Nodup → (∀ x ∈ xs, x ∈ ys) → ys.length ≤ xs.length → ∀ y ∈ ys, y ∈ xs := fun {xs ys} h hs hl y hy => Classical.byContradiction fun hn => by
  have := nodup_le (xs := y :: xs) (ys := ys) (List.nodup_cons.mpr ⟨hn, h⟩) fun x hx => (List.mem_cons.mp hx).elim (fun e => e ▸ hy) (hs x)
  rw [List.length_cons] at this
  omega
def roI (b : Book) (n : Nat) (m : Nat) (ρ : Rho) (μ : Mu) : Prop := ∃ (left : List Str) (fell : List (Str × Int)) (tn : Int) (x4 x5 : Option S),
  ρ = [some (.c (eBook b)), some (.c (eStrs left)), some (.hot 0), some (.c (.int tn)), x4, x5] ∧ μ = ⟨[.dk (eT D.int fell)], n⟩ ∧
  left.Nodup ∧ (∀ s ∈ left, s ∈ b.map (·.1)) ∧ (∀ s, Viab b s → s ∈ left) ∧ fell.length + left.length ≤ 6 ∧ 0 ≤ tn ∧ tn + m ≤ 20 ∧ left.length ≤ m
theorem len_e {α : Type} {f : α → D} {t : List (Str × α)} {k : D → Prop} : lenD (.dk (eT f t)) k = k (.int (t.length : Int)) := by
  rw [q_lenK]
  simp [eT]
theorem w_rounds (a : Addr) : ∀ ss n kk, sp_rounds a ss n kk → t_rounds a (ends kk) (rho0 N_rounds ss) ⟨[], n⟩ := by
  rintro ss n kk ⟨b, rfl, ok, q⟩
  unfold t_rounds
  walk_at "d"
  rw [e_book]
  walk_at "d"
  rw [keys_e]
  unfold t_rounds_1
  refine while_i (roI b n) 6 ⟨b.map (·.1), [], 0, _, _, rfl, rfl, ok.nd, fun s h => h, ?_, by simpa using ok.len, by omega, by omega, by simpa using ok.len⟩ ?_
  · rintro s ⟨L, hL, hs⟩
    have := hL s hs
    cases this with
    | done hb _ _ => exact List.mem_map_of_mem hb
    | step hb _ _ _ _ => exact List.mem_map_of_mem hb
  rintro m ρ μ ⟨left, fell, tn, x4, x5, rfl, rfl, i1, i2, i3, i4, i5, i6, i7⟩
  walk_at "d"
  unfold t_rounds_1_b
  walk_at "d"
  refine ⟨b, left, rfl, ok, i1, i2, fun rk r1 r2 => ?_⟩
  unfold t_rounds_1_b_1
  walk_at "d"
  have sub : ∀ s ∈ rk.map (·.1), s ∈ left := fun s hs => ((r2 s).mp hs).here
  have hle := nodup_le r1 sub
  rw [List.length_map] at hle
  show lenD (.dk (eT D.int rk)) _
  rw [len_e]
  show lenD (.lst (left.map D.str)) _
  rw [q_lenL, List.length_map]
  refine ⟨rfl, ?_⟩
  rw [eqb_ii]
  refine br_i (fun h => ⟨by decide, ?_⟩) fun h => ?_
  · have he : rk.length = left.length := by
      have := of_decide_eq_true h
      omega
    have all : ∀ s ∈ left, s ∈ rk.map (·.1) := nodup_full r1 sub (by rw [List.length_map]; omega)
    exact q rk fell r1 fun s => ⟨fun hs => ⟨(· ∈ left), fun u hu => (r2 u).mp (all u hu), sub s hs⟩, fun hs => all s (i3 s hs)⟩
  have hlt : rk.length < left.length := by
    have := of_decide_eq_false h
    omega
  unfold t_rounds_1_b_2
  walk_at "d"
  rw [it_strs]
  refine ⟨by simp [lim]; omega, ?_⟩
  refine runC_strs (p := fun z => decide (z ∉ rk.map (·.1))) left (fun z hz K hK => ?_) ?_
  · show inD (.str z) (.dk (eT D.int rk)) _
    rw [q_inK, hasK_e]
    by_cases h : z ∈ rk.map (·.1)
    · rw [decide_eq_true h]
      rw [decide_eq_false (not_not_intro h)] at hK
      exact br_f.mpr hK
    · rw [decide_eq_false h]
      rw [decide_eq_true h] at hK
      exact br_t.mpr hK
  generalize hfr : left.filter (fun z => decide (z ∉ rk.map (·.1))) = fr
  have frm : ∀ z, z ∈ fr ↔ z ∈ left ∧ z ∉ rk.map (·.1) := fun z => by rw [← hfr, List.mem_filter, decide_eq_true_eq]
  have frl : fr.length + rk.length ≤ left.length := by
    have nd2 : (fr ++ rk.map (·.1)).Nodup := by
      rw [List.nodup_append]
      refine ⟨by rw [← hfr]; exact i1.sublist List.filter_sublist, r1, fun x hx y hy e => ?_⟩
      subst e
      exact ((frm x).mp hx).2 hy
    have := nodup_le nd2 (ys := left) fun s hs => (List.mem_append.mp hs).elim (fun h => ((frm s).mp h).1) (sub s)
    simpa using this
  refine runF_strs fr (fun dn ρ μ => ∃ (fell' : List (Str × Int)) (x5 : Option S), ρ = [some (S.c (eBook b)), some (S.c (eStrs left)), some (S.hot 0), some (S.c (D.int tn)), some (S.c (eInts rk)), x5] ∧ μ = ⟨[.dk (eT D.int fell')], n⟩ ∧ fell'.length ≤ fell.length + dn.length) ⟨fell, _, rfl, rfl, by simp⟩ ?_ ?_
  · rintro dn z zs ρ μ k e ⟨fell', x5, rfl, rfl, hf⟩ hk
    have dl : dn.length < fr.length := by rw [e]; simp
    unfold t_rounds_1_b_2_b
    walk_at "d"
    refine ⟨by simp [eT, lim]; omega, ?_⟩
    rw [putD_e (f := D.int)]
    refine hk _ _ ⟨_, _, rfl, rfl, ?_⟩
    have := putT_len fell' z tn
    rw [List.length_append]
    simp
    omega
  · rintro ρ μ ⟨fell', x5, rfl, rfl, hf⟩
    unfold t_rounds_1_b_3
    walk_at "d"
    rw [it_strs]
    refine ⟨by simp [lim]; omega, ?_⟩
    refine runC_strs (p := fun z => decide (z ∈ rk.map (·.1))) left (fun z hz K hK => ?_) ?_
    · show inD (.str z) (.dk (eT D.int rk)) _
      rw [q_inK, hasK_e]
      by_cases h : z ∈ rk.map (·.1)
      · rw [decide_eq_true h] at hK ⊢
        exact br_t.mpr hK
      · rw [decide_eq_false h] at hK ⊢
        exact br_f.mpr hK
    generalize hk2 : left.filter (fun z => decide (z ∈ rk.map (·.1))) = kp
    have kpm : ∀ z, z ∈ kp ↔ z ∈ left ∧ z ∈ rk.map (·.1) := fun z => by rw [← hk2, List.mem_filter, decide_eq_true_eq]
    have kpn : kp.Nodup := by rw [← hk2]; exact i1.sublist List.filter_sublist
    have kpl := nodup_le kpn (ys := rk.map (·.1)) fun z hz => ((kpm z).mp hz).2
    rw [List.length_map] at kpl
    exact ⟨m - 1, by omega, kp, fell', tn + 1, _, _, rfl, rfl, kpn, fun s hs => i2 s ((kpm s).mp hs).1, fun s hs => (kpm s).mpr ⟨i3 s hs, (r2 s).mpr (viab_left i3 hs)⟩, by omega, by omega, by omega, by omega⟩
theorem w_ranks_of (a : Addr) : ∀ ss n kk, sp_ranks_of a ss n kk → t_ranks_of a (ends kk) (rho0 N_ranks_of ss) ⟨[], n⟩ := by
  rintro ss n kk ⟨b, f, rfl, ok, q⟩
  unfold t_ranks_of eDesk
  walk_at "d"
  rw [lk_rows]
  walk_at "d"
  refine ⟨b, rfl, ok, fun rk fell nd hv => ?_⟩
  have hl : rk.length ≤ 6 := by
    have h1 := nodup_le nd (ys := b.map (·.1)) fun s hs => by
      obtain ⟨L, hL, hs⟩ := (hv s).mp hs
      cases hL s hs with
      | done hb _ _ => exact List.mem_map_of_mem hb
      | step hb _ _ _ _ => exact List.mem_map_of_mem hb
    have := ok.len
    simp at h1; omega
  show ixD (.tup [eInts rk, eInts fell]) (.int 0) _
  rw [q_ixT, atI_zero, q_onS]
  show sortD2 (.dk (eT D.int rk)) _
  refine sort_e (by omega) ?_
  walk_at "d"
  refine ⟨by simp [sortS, lim]; omega, ?_⟩
  refine runA_keys (f := D.int) (fun k => getT rk k) (sortS (rk.map (·.1))) [] (by simpa using sort_nd nd) (fun k hk acc K hK => ?_) ?_
  · unfold dcB
    walk_at "d"
    show ixD (.dk (eT D.int rk)) _ _
    rw [q_ixK, getK_e (f := D.int) (sort_mem.mp hk)]
    exact hK
  · have ke : (([] : List (Str × Int)) ++ (sortS (rk.map (·.1))).map fun k => (k, getT rk k)).map (·.1) = sortS (rk.map (·.1)) := by simp [List.map_map, Function.comp_def]
    refine q _ ?_ fun s => ?_
    · rw [ke]; exact sort_nd nd
    · rw [ke, sort_mem]; exact hv s
theorem w_is_viable (a : Addr) : ∀ ss n kk, sp_is_viable a ss n kk → t_is_viable a (ends kk) (rho0 N_is_viable ss) ⟨[], n⟩ := by
  rintro ss n kk ⟨b, f, rfl, ok, q⟩
  unfold t_is_viable
  walk_at "d"
  unfold eDesk
  walk_at "d"
  rw [lk_first]
  walk_at "d"
  refine ⟨b, f, rfl, ok, fun rk nd hv => ?_⟩
  show inD (.str f) (.dk (eT D.int rk)) _
  rw [q_inK, hasK_e]
  have : decide (f ∈ rk.map (·.1)) = viabB b f := by
    unfold viabB
    classical
    by_cases h : Viab b f
    · rw [decide_eq_true ((hv f).mpr h), decide_eq_true h]
    · rw [decide_eq_false fun e => h ((hv f).mp e), decide_eq_false h]
  rw [this]
  exact q
end DL
/-! ## KS12 -/
namespace DL
open PySem PySem.Spec PyProof.Rows L2
local macro_rules | `(tactic| walk_at "d") => `(tactic| simp only [rSeq, rSet, rRet, rIfS, rFor, rDrop, rNext, rDead, rBrk, rCont, rPur, rPurSet, rVar, rC, rBin, rCh, rAndV, rOrV, rNotV, rAnd, rOr, rNot, rIf, rT, rCB, rCons, rNil, rCall, rIsi, rIsi2, rIsiC, rSl, rNo, rPt, rNeg, rRev, rTup, rLst, rLstH, rDctH, rDct0, rDisp, rDispH, rP0, rP1, rPar, rPar3, rUnp, rAsg, rAug, iIt, iRng, iRng2, iItems, iVals, iZip, gNm, rMut, rPut, rFrz, rLC, rSetLc, rDc, rDcH, rDC, rYes, rStar, rMeth0, rMake, rFldSet, rEqO, rTur, rJoin, rBits, rIndexD, rList_values, rList_items, rFld, rLC2, rIn, wipeR, br_t, br_f, rho0, ends, endsI, q_sel, q_isB, q_isPur, q_isI, q_strD, q_lstD, q_dkD, q_dkS, q_argS0, q_argSc, q_argSp, q_coldS, q_onS, q_noTy_non, q_noTy_bl, q_noTy_int, q_noTy_str, q_noTy_lst, q_noTy_tup, q_noTy_dk, q_noTy_obj, q_addI, q_addS, q_addL, q_addT, q_intD, q_ltI, q_ltS, q_g1, q_g2, q_lenL, q_lenT, q_lenK, q_lenS, q_intOf, q_listL, q_listT, q_listK, q_listS, q_iterL, q_iterT, q_iterK, q_iterS, q_ixL, q_ixT, q_ixS, q_ixK, q_slS, q_slL, q_inL, q_inK, q_inS, q_inV, q_ninV, q_eqD, q_neD, q_rdC, q_rdH, q_hotL, q_hotK, q_setM0, q_setM1, q_nth0, q_nthS, q_colds0, q_colds1, q_keyI, q_keyS, q_app, q_ins, q_gTp, q_gLs, q_gCs, q_gNl, q_frz0, q_frz1, q_thN, q_thC, q_thP, q_thH, q_putS, q_objS, q_fld, q_objP, q_zipL, q_zipT, q_all, q_any, q_kit_NoneType_bool, q_kit_NoneType_int, q_kit_NoneType_str, q_kit_NoneType_list, q_kit_NoneType_tuple, q_kit_NoneType_dict, q_kit_bool_bool, q_kit_bool_int, q_kit_bool_str, q_kit_bool_list, q_kit_bool_tuple, q_kit_bool_dict, q_kit_int_bool, q_kit_int_int, q_kit_int_str, q_kit_int_list, q_kit_int_tuple, q_kit_int_dict, q_kit_str_bool, q_kit_str_int, q_kit_str_str, q_kit_str_list, q_kit_str_tuple, q_kit_str_dict, q_kit_list_bool, q_kit_list_int, q_kit_list_str, q_kit_list_list, q_kit_list_tuple, q_kit_list_dict, q_kit_tuple_bool, q_kit_tuple_int, q_kit_tuple_str, q_kit_tuple_list, q_kit_tuple_tuple, q_kit_tuple_dict, q_kit_dict_bool, q_kit_dict_int, q_kit_dict_str, q_kit_dict_list, q_kit_dict_tuple, q_kit_dict_dict, List.map_cons, List.map_nil, List.length_cons, List.length_nil, List.append_nil, List.cons_append, List.nil_append, List.set_cons_zero, List.set_cons_succ, List.replicate_succ, List.replicate_zero, Nat.reduceSub, Nat.reduceAdd, tyN, List.getD_cons_zero, List.getD_cons_succ, if_true, if_false, true_and, and_true, Nat.zero_add, List.set_nil, Bool.not_true, Bool.not_false])
/-! ### lists of anything -/
section
variable {α : Type} (e : α → D)
theorem runC_of (p : α → Bool) (g : α → D) {body : D → (Option D → Mu → Prop) → Mu → Prop} {μ : Mu} {k : List D → Mu → Prop} : ∀ (xs : List α) (acc : List D), (∀ x ∈ xs, ∀ K : Option D → Mu → Prop, K (if p x = true then some (g x) else none) μ → body (e x) K μ) → k (acc ++ (xs.filter p).map g) μ → runC body (xs.map e) acc μ k
  | [], acc, _, h => by simpa [runC] using h
  | x :: xs, acc, hb, h => by
    rw [List.map_cons]
    refine hb x (by simp) _ ?_
    show runC body (xs.map e) (acc ++ _) μ k
    refine runC_of p g xs _ (fun y hy => hb y (by simp [hy])) ?_
    by_cases hx : p x = true
    · simpa [hx] using h
    · simpa [hx] using h
theorem runC_bool (t : α → Bool) {body : D → (Option D → Mu → Prop) → Mu → Prop} {μ : Mu} {k : List D → Mu → Prop} (xs : List α) (hb : ∀ x ∈ xs, ∀ K : Option D → Mu → Prop, K (some (.bl (t x))) μ → body (e x) K μ) (h : k ((xs.map t).map D.bl) μ) : runC body (xs.map e) [] μ k := by
  refine runC_of e (fun _ => true) (fun x => .bl (t x)) xs [] (fun x hx K hK => hb x hx K (by simpa using hK)) ?_
  have : xs.filter (fun _ => true) = xs := by simp
  rw [this, List.nil_append]
  rw [List.map_map] at h
  exact h
theorem runC_all (g : α → D) {body : D → (Option D → Mu → Prop) → Mu → Prop} {μ : Mu} {k : List D → Mu → Prop} (xs : List α) (hb : ∀ x ∈ xs, ∀ K : Option D → Mu → Prop, K (some (g x)) μ → body (e x) K μ) (h : k (xs.map g) μ) : runC body (xs.map e) [] μ k := by
  refine runC_of e (fun _ => true) g xs [] (fun x hx K hK => hb x hx K (by simpa using hK)) ?_
  have : xs.filter (fun _ => true) = xs := by simp
  rw [this, List.nil_append]
  exact h
theorem runA_flat (g : α → List D) {body : D → List D → Mu → (List D → Mu → Prop) → Prop} {μ : Mu} {k : List D → Mu → Prop} {B : Nat} : ∀ (xs : List α) (acc : List D), acc.length + (xs.flatMap g).length ≤ B → (∀ x ∈ xs, ∀ (acc : List D) (K : List D → Mu → Prop), acc.length + (g x).length ≤ B → K (acc ++ g x) μ → body (e x) acc μ K) → k (acc ++ xs.flatMap g) μ → runA body (xs.map e) acc μ k
  | [], acc, _, _, h => by simpa [runA] using h
  | x :: xs, acc, hl, hb, h => by
    rw [List.flatMap_cons, List.length_append] at hl
    rw [List.map_cons]
    refine hb x (by simp) _ _ (by omega) ?_
    refine runA_flat g xs _ (by rw [List.length_append]; omega) (fun y hy => hb y (by simp [hy])) ?_
    simpa using h
theorem runF_of {body : D → RS} {N : EndsD} {ρ : Rho} {μ : Mu} (zs0 : List α) (Inv : List α → Rho → Mu → Prop) (start : Inv [] ρ μ)
    (step : ∀ dn z zs ρ μ (k : Rho → Mu → Prop), zs0 = dn ++ z :: zs → Inv dn ρ μ → (∀ ρ' μ', Inv (dn ++ [z]) ρ' μ' → k ρ' μ') → body (e z) { nx := k, ct := k, bk := N.nx, rt := N.rt } ρ μ)
    (done : ∀ ρ' μ', Inv zs0 ρ' μ' → N.nx ρ' μ') : runF body (zs0.map e) N ρ μ := by
  have A : ∀ d ds ρ μ (k : Rho → Mu → Prop), (∀ ρ' μ', (∃ dn zs, ds = zs.map e ∧ zs0 = dn ++ zs ∧ Inv dn ρ' μ') → k ρ' μ') → (∃ dn zs, d :: ds = zs.map e ∧ zs0 = dn ++ zs ∧ Inv dn ρ μ) → body d { nx := k, ct := k, bk := N.nx, rt := N.rt } ρ μ := by
    rintro d ds ρ μ k hk ⟨dn, zs, e1, e2, hi⟩
    cases zs with
    | nil => cases e1
    | cons z zs =>
      rw [List.map_cons, List.cons.injEq] at e1
      obtain ⟨rfl, rfl⟩ := e1
      exact step dn z zs ρ μ k e2 hi fun ρ' μ' h' => hk ρ' μ' ⟨dn ++ [z], zs, rfl, by simpa using e2, h'⟩
  have B : ∀ ρ' μ', (∃ dn zs, [] = zs.map e ∧ zs0 = dn ++ zs ∧ Inv dn ρ' μ') → N.nx ρ' μ' := by
    rintro ρ' μ' ⟨dn, zs, e1, e2, hi⟩
    cases zs with
    | nil =>
      rw [List.append_nil] at e2
      subst e2
      exact done ρ' μ' hi
    | cons z zs => cases e1
  exact runF_ind (fun ds ρ μ => ∃ dn zs, ds = zs.map e ∧ zs0 = dn ++ zs ∧ Inv dn ρ μ) A B _ _ _ ⟨[], zs0, rfl, rfl, start⟩
end
theorem flat_one {α β : Type} (g : α → β) : ∀ xs : List α, xs.flatMap (fun x => [g x]) = xs.map g
  | [] => rfl
  | x :: xs => by rw [List.flatMap_cons, flat_one g xs]; rfl
theorem seq_pairs : ∀ l : Lot, seqDs (l.map eP) = true
  | [] => rfl
  | p :: l => by rw [List.map_cons]; simp only [seqDs, seq_pairs l, eP, seqD, Bool.and_self]
theorem dep_pairs : ∀ l : Lot, deps (l.map eP) ≤ 1
  | [] => by simp [deps]
  | p :: l => by
    have := dep_pairs l
    rw [List.map_cons]
    simp only [deps, eP, dep] at this ⊢
    omega
theorem any_pairs (p : Str × Str) : ∀ l : Lot, (l.map eP).any (fun d => eqb d (eP p)) = decide (p ∈ l)
  | [] => by simp
  | q :: l => by
    rw [List.map_cons, List.any_cons, any_pairs p l, eqb_pair, Bool.eq_iff_iff]
    simp only [Bool.or_eq_true, decide_eq_true_eq, List.mem_cons, eq_comm (a := q) (b := p)]
theorem in_pairs {p : Str × Str} {l : Lot} {k : Bool → Prop} (h : k (decide (p ∈ l))) : inD (eP p) (ePairs l) k := by
  show inD (eP p) (.lst (l.map eP)) k
  rw [q_inL, any_pairs]
  have := dep_pairs l
  refine ⟨?_, h⟩
  rw [seq_pairs]
  simp only [Bool.and_eq_true, decide_eq_true_eq]
  exact ⟨⟨rfl, trivial⟩, by omega⟩
theorem said_len {b : Book} (ok : OkBook b) : (saidP b).length ≤ 36 := by
  have : ∀ l : Book, (∀ p ∈ l, p.2.turns.length ≤ 6) → (saidP l).length ≤ 6 * l.length := fun l => by
    induction l with
    | nil => intro _; exact Nat.zero_le _
    | cons p l ih =>
      intro h
      have h1 := ih fun q hq => h q (by simp [hq])
      have h2 := h p (by simp)
      unfold saidP at h1 ⊢
      rw [List.flatMap_cons, List.length_append, List.length_cons]
      split
      · rw [List.length_map]; omega
      · simp only [List.length_nil]; omega
  have h1 := this b fun p hp => (ok.row p hp).len
  have := ok.len
  omega
theorem w_has_partner (a : Addr) : ∀ ss n kk, sp_has_partner a ss n kk → t_has_partner a (ends kk) (rho0 N_has_partner ss) ⟨[], n⟩ := by
  rintro ss n kk ⟨b, f, rfl, ok, q⟩
  unfold t_has_partner
  walk_at "d"
  refine ⟨b, f, rfl, ?_⟩
  exact ⟨b, f, rfl, ok, q⟩
abbrev eIt (p : Str × Row) : D := .tup [.str p.1, eRow p.2]
theorem items_book (b : Book) : (eT eRow b).map (fun p => D.tup [kD p.1, p.2]) = b.map eIt := by
  unfold eT
  rw [List.map_map]
  rfl
theorem w_words_at (a : Addr) : ∀ ss n kk, sp_words_at a ss n kk → t_words_at a (ends kk) (rho0 N_words_at ss) ⟨[], n⟩ := by
  rintro ss n kk ⟨b, f, rfl, ok, q⟩
  have hl := said_len ok
  unfold t_words_at eDesk
  walk_at "d"
  rw [lk_rows, e_book]
  walk_at "d"
  rw [items_book]
  have hs : b.flatMap (fun p => (if p.2.kind = ("says" : Str) then p.2.turns.map fun t => (p.1, t.1) else []).map eP) = (saidP b).map eP := by
    unfold saidP
    rw [List.map_flatMap]
  refine runA_flat (B := 36) eIt (fun p => (if p.2.kind = ("says" : Str) then p.2.turns.map fun t => (p.1, t.1) else []).map eP) b [] ?_ (fun p hp acc K hl hK => ?_) ?_
  · rw [hs]; simpa using hl
  · walk_at "d"
    rw [ix_row0]
    refine ⟨rfl, ?_⟩
    rw [eqb_ss]
    refine br_i (fun h => ?_) fun h => ?_
    · have h := of_decide_eq_true h
      rw [if_pos h] at hl hK
      rw [ix_row1, e_turns, q_iterK, keys_e]
      have e2 : (p.2.turns.map (·.1)).flatMap (fun z => [eP (p.1, z)]) = (p.2.turns.map fun t => (p.1, t.1)).map eP := by
        rw [flat_one, List.map_map, List.map_map]
        rfl
      refine runA_flat (B := 36) D.str (fun z => [eP (p.1, z)]) (p.2.turns.map (·.1)) acc ?_ (fun z hz acc K hl hK => ?_) ?_
      · rw [e2]; exact hl
      · rw [List.length_singleton] at hl
        refine ⟨by decide, ?_, hK⟩
        show acc.length < 16777216
        omega
      · rw [e2]; exact hK
    · have h := of_decide_eq_false h
      rw [if_neg h] at hK
      simpa using hK
  · rw [hs]; exact q
theorem lots_len (l : Lot) : (lotsP l).length = 2 ^ l.length := by
  have A : ∀ (l : Lot) (ls : List Lot), (l.foldl (fun ls x => ls ++ ls.map (· ++ [x])) ls).length = ls.length * 2 ^ l.length := fun l => by
    induction l with
    | nil => intro ls; simp
    | cons x l ih =>
      intro ls
      rw [List.foldl_cons, ih, List.length_append, List.length_map, List.length_cons, Nat.pow_succ]
      rw [Nat.add_mul, Nat.mul_comm (2 ^ _) 2, ← Nat.mul_assoc, Nat.mul_two, Nat.add_mul]
  have := A l [[]]
  simpa [lotsP] using this
theorem snoc_ind {α : Type} {P : List α → Prop} (h0 : P []) (h1 : ∀ l x, P l → P (l ++ [x])) : ∀ l, P l := fun l => by
  rw [← List.reverse_reverse l]
  induction l.reverse with
  | nil => exact h0
  | cons x l ih => rw [List.reverse_cons]; exact h1 _ _ ih
theorem lots_snoc (l : Lot) (p : Str × Str) : lotsP (l ++ [p]) = lotsP l ++ (lotsP l).map (· ++ [p]) := by
  unfold lotsP
  rw [List.foldl_append]
  rfl
theorem lots_mem : ∀ l x : Lot, x ∈ lotsP l ↔ x.Sublist l := snoc_ind (fun x => by simp [lotsP]) fun l p ih x => by
  rw [lots_snoc, List.mem_append, List.mem_map, List.sublist_append_iff]
  constructor
  · rintro (h | ⟨y, hy, rfl⟩)
    · exact ⟨x, [], by simp, (ih x).mp h, by simp⟩
    · exact ⟨y, [p], rfl, (ih y).mp hy, List.Sublist.refl _⟩
  · rintro ⟨a, b, rfl, ha, hb⟩
    cases hb with
    | cons _ h =>
      cases h
      left
      rw [List.append_nil]
      exact (ih a).mpr ha
    | cons_cons _ h =>
      cases h
      right
      exact ⟨a, (ih a).mpr ha, rfl⟩
theorem colds_map {k : List D → Prop} : ∀ ds : List D, colds (ds.map S.c) k = k ds := fun ds => by
  induction ds generalizing k with
  | nil => rfl
  | cons d ds ih => rw [List.map_cons, q_colds1, ih]
theorem w_lots_of (a : Addr) : ∀ ss n kk, sp_lots_of a ss n kk → t_lots_of a (ends kk) (rho0 N_lots_of ss) ⟨[], n⟩ := by
  rintro ss n kk ⟨l, rfl, hl, q⟩
  unfold t_lots_of
  walk_at "d"
  refine ⟨by decide, by decide, ?_⟩
  unfold t_lots_of_1
  walk_at "d"
  show runF _ (l.map eP) _ _ _
  refine runF_of eP l (fun dn ρ μ => ∃ x2, ρ = [some (S.c (ePairs l)), some (S.c (eLots (lotsP dn))), x2, none] ∧ μ = ⟨[], n⟩) ⟨_, rfl, rfl⟩ ?_ ?_
  · rintro dn p zs ρ μ k e ⟨x2, rfl, rfl⟩ hk
    have dl : dn.length < 6 := by
      have := congrArg List.length e
      simp at this; omega
    have ll : (lotsP dn).length ≤ 32 := by
      rw [lots_len]
      exact Nat.pow_le_pow_right (by decide) (by omega : dn.length ≤ 5)
    unfold t_lots_of_1_b
    walk_at "d"
    refine ⟨by rw [List.length_map]; show _ ≤ 16777216; omega, ?_⟩
    refine runC_all eL (fun x => eL (x ++ [p])) (lotsP dn) (fun x hx K hK => ?_) ?_
    · have hx2 := ((lots_mem dn x).mp hx).length_le
      unfold eL
      walk_at "d"
      have e3 : List.map S.c (List.map eP x) ++ [S.c (eP p)] = ((x ++ [p]).map eP).map S.c := by simp
      rw [e3, colds_map]
      refine ⟨?_, hK⟩
      simp only [List.length_map, List.length_append, List.length_singleton]
      show _ ≤ 16777216
      omega
    · refine ⟨?_, ?_⟩
      · simp only [List.length_map]
        show _ ≤ 16777216
        omega
      refine hk _ _ ⟨some (S.c (eP p)), ?_, rfl⟩
      rw [lots_snoc]
      simp only [eLots, List.map_append, List.map_map]
      rfl
  · rintro ρ μ ⟨x2, rfl, rfl⟩
    unfold t_lots_of_2
    walk_at "d"
    exact .inr (.inr ⟨_, rfl, q⟩)
theorem ne_dnil (t : List (Str × Str)) : neOk (eTurns t) (.dk []) = true := by
  show (_ || _) = true
  rw [Bool.or_eq_true]
  right
  show (_ || true) = true
  rw [Bool.or_true]
theorem eqb_dnil (t : List (Str × Str)) : eqb (eTurns t) (.dk []) = decide (t = []) := by
  unfold eTurns
  simp only [eqb]
  cases t with
  | nil => simp [eqbk]
  | cons a t => simp
abbrev lfP (l : Lot) (p : Str × Row) : Bool := decide (p.2.turns = []) || p.2.turns.any fun t => decide ((p.1, t.1) ∉ l)
theorem lf_all (l : Lot) (p : Str × Row) : lfP l p = (decide (p.2.turns = []) || !((p.2.turns.map (·.1)).map fun z => decide ((p.1, z) ∈ l)).all fun b => b) := by
  unfold lfP
  congr 1
  rw [Bool.eq_iff_iff]
  simp
theorem w_are_left (a : Addr) : ∀ ss n kk, sp_are_left a ss n kk → t_are_left a (ends kk) (rho0 N_are_left ss) ⟨[], n⟩ := by
  rintro ss n kk ⟨b, f, l, rfl, ok, q⟩
  unfold t_are_left
  walk_at "d"
  show fldD a "rows" (.obj a [("rows", eBook b), ("first", .str f)]) _
  walk_at "d"
  rw [lk_rows, e_book]
  walk_at "d"
  show runF _ ((eT eRow b).map fun p => D.tup [kD p.1, p.2]) _ _ _
  rw [items_book]
  refine runF_of eIt b (fun dn ρ μ => ∃ x2 x3 x4, ρ = [some (S.c (eDesk a b f)), some (S.c (ePairs l)), x2, x3, x4, none] ∧ μ = ⟨[], n⟩ ∧ dn.all (lfP l) = true) ⟨_, _, _, rfl, rfl, rfl⟩ ?_ ?_
  · rintro dn p zs ρ μ k e ⟨x2, x3, x4, rfl, rfl, hd⟩ hk
    unfold t_are_left_0_b
    unfold eIt eRow
    walk_at "d"
    refine ⟨ne_dnil _, ?_⟩
    rw [eqb_dnil]
    have hit : lfP l p = false → kk (.bl false) n := fun h => by
      have : leftB b l = false := by
        rw [Bool.eq_false_iff]
        intro h2
        have := List.all_eq_true.mp h2 p (by rw [e]; simp)
        exact Bool.noConfusion (h.symm.trans this)
      rw [this] at q
      exact q
    have go : lfP l p = true → ∀ x2 x3 x4, k [some (S.c (eDesk a b f)), some (S.c (ePairs l)), x2, x3, x4, none] ⟨[], n⟩ := fun h x2 x3 x4 => hk _ _ ⟨x2, x3, x4, rfl, rfl, by rw [List.all_append, hd]; simpa using h⟩
    refine br_i (fun h => ?_) fun h => ?_
    · rw [e_turns, q_iterK, keys_e]
      have tl := (ok.row p (by rw [e]; simp)).len
      refine ⟨by simp only [List.length_map]; show _ ≤ 16777216; omega, ?_⟩
      refine runC_bool D.str (fun z => decide ((p.1, z) ∈ l)) _ (fun z hz K hK => ?_) ?_
      · exact ⟨by decide, in_pairs (p := (p.1, z)) (k := fun c => K (some (.bl c)) _) hK⟩
      refine ⟨_, rfl, ?_⟩
      have hn : decide (p.2.turns = []) = false := by simpa using h
      have hlf := lf_all l p
      rw [hn, Bool.false_or] at hlf
      refine br_i (fun h2 => ?_) fun h2 => ?_
      · rw [h2] at hlf
        exact hit hlf
      · rw [h2] at hlf
        exact go hlf _ _ _
    · exact go (by unfold lfP; simp at h; simp [h]) _ _ _
  · rintro ρ μ ⟨x2, x3, x4, rfl, rfl, hd⟩
    unfold t_are_left_1
    walk_at "d"
    have : leftB b l = true := hd
    rw [this] at q
    exact q
theorem lots_sort_len {l : Lot} (h : l.length ≤ 6) : (srt (lexL ltP) (lotsP l)).length ≤ 64 := by
  rw [(srt_perm _ _).length_eq, lots_len]
  exact Nat.pow_le_pow_right (by decide) h
theorem w_droppable_from (a : Addr) : ∀ ss n kk, sp_droppable_from a ss n kk → t_droppable_from a (ends kk) (rho0 N_droppable_from ss) ⟨[], n⟩ := by
  rintro ss n kk ⟨b, f, rfl, ok, hl, q⟩
  have h64 := lots_sort_len hl
  unfold t_droppable_from
  walk_at "d"
  refine ⟨b, f, rfl, ok, ?_⟩
  refine ⟨saidP b, rfl, hl, ?_⟩
  refine ⟨by rw [List.length_map]; show _ ≤ 16777216; omega, ?_⟩
  refine runC_of eL (leftB b) eL _ [] (fun l hm K hK => ?_) q
  refine ⟨b, f, l, rfl, ok, ?_⟩
  refine br_i (fun h => ?_) fun h => ?_
  · rw [h] at hK; exact hK
  · rw [h] at hK; exact hK
theorem eqb_lots : ∀ x y : Lot, eqb (ePairs x) (ePairs y) = decide (x = y) := by
  have A : ∀ x y : Lot, eqbs (x.map eP) (y.map eP) = decide (x = y) := fun x => by
    induction x with
    | nil => intro y; cases y with
      | nil => simp [eqbs]
      | cons q y => simp [eqbs]
    | cons p x ih =>
      intro y
      cases y with
      | nil => simp [eqbs]
      | cons q y =>
        rw [List.map_cons, List.map_cons]
        simp only [eqbs, eqb_pair, ih]
        by_cases h1 : p = q
        · by_cases h2 : x = y
          · simp [h1, h2]
          · simp [h1, h2]
        · simp [h1]
  intro x y
  show eqb (.lst (x.map eP)) (.lst (y.map eP)) = _
  simp only [eqb, A]
theorem ne_lots (x y : Lot) : neOk (ePairs x) (ePairs y) = true := by
  show (_ || _) = true
  rw [Bool.or_eq_true]
  left
  have h1 : seqD (ePairs x) = true := by show seqDs (x.map eP) = true; exact seq_pairs x
  have h2 : seqD (ePairs y) = true := by show seqDs (y.map eP) = true; exact seq_pairs y
  have h3 := dep_pairs x
  have h4 : dep (ePairs x) ≤ 60 := by show deps (x.map eP) + 1 ≤ 60; omega
  rw [h1, h2, decide_eq_true h4]
  rfl
theorem w_lies_in (a : Addr) : ∀ ss n kk, sp_lies_in a ss n kk → t_lies_in a (ends kk) (rho0 N_lies_in ss) ⟨[], n⟩ := by
  rintro ss n kk ⟨x, y, rfl, hx, q⟩
  unfold t_lies_in
  walk_at "d"
  refine ⟨ne_lots x y, ?_⟩
  rw [eqb_lots]
  unfold liesB at q
  refine br_i (fun h => ?_) fun h => ?_
  · rw [h, Bool.true_and] at q
    refine ⟨by rw [List.length_map]; show _ ≤ 16777216; omega, ?_⟩
    refine runC_bool eP (fun p => decide (p ∈ y)) x (fun p hp K hK => ?_) ?_
    · exact in_pairs (p := p) (k := fun c => K (some (.bl c)) _) hK
    refine ⟨_, rfl, ?_⟩
    rw [List.all_map]
    exact q
  · rw [h, Bool.false_and] at q
    exact q
theorem any_id {α : Type} (f : α → Bool) (l : List α) : ((l.map f).any fun b => b) = l.any f := by
  rw [List.any_map]
  rfl
theorem all_id {α : Type} (f : α → Bool) (l : List α) : ((l.map f).all fun b => b) = l.all f := by
  rw [List.all_map]
  rfl
theorem w_least_of (a : Addr) : ∀ ss n kk, sp_least_of a ss n kk → t_least_of a (ends kk) (rho0 N_least_of ss) ⟨[], n⟩ := by
  rintro ss n kk ⟨ls, rfl, hl, h6, q⟩
  unfold t_least_of
  walk_at "d"
  refine ⟨by rw [List.length_map]; show _ ≤ 16777216; omega, ?_⟩
  refine runC_of eL (fun x => !(ls.any fun y => liesB y x)) eL _ [] (fun x hx K hK => ?_) q
  refine ⟨by rw [List.length_map]; show _ ≤ 16777216; omega, ?_⟩
  refine runC_bool eL (fun y => liesB y x) _ (fun y hy K hK => ?_) ?_
  · exact ⟨y, x, rfl, h6 y hy, hK⟩
  refine ⟨_, rfl, ?_⟩
  rw [any_id]
  refine br_i (fun h => ?_) fun h => ?_
  · rw [if_pos h] at hK; exact hK
  · rw [if_neg (by rw [h]; decide)] at hK; exact hK
theorem w_is_word_at (a : Addr) : ∀ ss n kk, sp_is_word_at a ss n kk → t_is_word_at a (ends kk) (rho0 N_is_word_at ss) ⟨[], n⟩ := by
  rintro ss n kk ⟨p, rfl, h1, h2, q⟩
  have A : ∀ z, isSpelt z = true → z.length ≤ lim := fun z hz => by
    have := (spelt_iff.mp hz).1
    have h2 : z.length = z.cps.toList.length := by simp [Str.length]
    show _ ≤ 16777216
    omega
  unfold t_is_word_at eP
  walk_at "d"
  refine ⟨rfl, ?_⟩
  rw [eqb_ii]
  refine br_i (fun _ => ⟨by decide, ?_⟩) fun h => absurd h (by decide)
  show runC _ ([p.1, p.2].map D.str) [] _ _
  refine runC_bool D.str isSpelt [p.1, p.2] (fun z hz K hK => ?_) ?_
  · have hs : isSpelt z = true := by
      rcases List.mem_cons.mp hz with rfl | hz
      · exact h1
      · rw [List.mem_singleton.mp hz]; exact h2
    exact ⟨z, rfl, A z hs, hK⟩
  · refine ⟨_, rfl, ?_⟩
    rw [all_id]
    simp only [List.all_cons, h1, h2, List.all_nil, Bool.and_self]
    exact q
theorem lt_pair {x y : Str × Str} {k : D → Prop} (h : k (.bl (ltP x y))) : ltD2 (eP x) (eP y) k := by
  have e := dlt_pair x y
  refine ⟨?_, ?_, ?_⟩
  · simp only [ltOks, ltOk, seqD, Bool.and_self]
  · simp only [deps, dep]; decide
  · simp only [eP, dlt] at e
    rw [e]; exact h
theorem w_is_ascending (a : Addr) : ∀ ss n kk, sp_is_ascending a ss n kk → t_is_ascending a (ends kk) (rho0 N_is_ascending ss) ⟨[], n⟩ := by
  rintro ss n kk ⟨l, rfl, asc, hl, q⟩
  unfold t_is_ascending
  walk_at "d"
  rw [List.length_map]
  refine ⟨⟨by decide, by decide, by omega, by omega⟩, ?_, ?_⟩
  · rw [List.length_map, List.length_range]
    show _ ≤ 16777216
    omega
  refine runC_bool (fun t : Nat => D.int (1 + (t : Int))) (fun _ => true) _ (fun t ht K hK => ?_) ?_
  · have ht := List.mem_range.mp ht
    have hl2 : t + 1 < l.length := by omega
    refine ⟨trivial, ?_⟩
    show ixD (ePairs l) (D.int (1 + (t : Int) - 1)) _
    rw [show (1 + (t : Int) - 1) = ((t : Nat) : Int) by omega, show (1 + (t : Int)) = ((t + 1 : Nat) : Int) by omega]
    show ixD (.lst (l.map eP)) _ _
    rw [q_ixL, atI_nat (by rw [List.length_map]; omega), q_onS]
    show ixD (.lst (l.map eP)) _ _
    rw [q_ixL, atI_nat (by rw [List.length_map]; omega), q_onS, List.getElem_map, List.getElem_map]
    refine lt_pair ?_
    have := List.pairwise_iff_getElem.mp asc t (t + 1) (by omega) hl2 (by omega)
    rw [this]
    exact hK
  · refine ⟨_, rfl, ?_⟩
    rw [all_id, List.all_eq_true.mpr fun _ _ => rfl]
    exact q
theorem said_mem {b : Book} {p : Str × Str} : p ∈ saidP b ↔ ∃ r t, (p.1, r) ∈ b ∧ r.kind = ("says" : Str) ∧ t ∈ r.turns ∧ t.1 = p.2 := by
  unfold saidP
  rw [List.mem_flatMap]
  constructor
  · rintro ⟨q, hq, h⟩
    by_cases hk : q.2.kind = ("says" : Str)
    · rw [if_pos hk] at h
      obtain ⟨t, ht, rfl⟩ := List.mem_map.mp h
      exact ⟨q.2, t, hq, hk, ht, rfl⟩
    · rw [if_neg hk] at h
      cases h
  · rintro ⟨r, t, h1, h2, h3, h4⟩
    refine ⟨(p.1, r), h1, ?_⟩
    rw [if_pos h2]
    exact List.mem_map.mpr ⟨t, h3, by rw [h4]⟩
theorem said_spelt {b : Book} (ok : OkBook b) {p : Str × Str} (h : p ∈ saidP b) : isSpelt p.1 = true ∧ isSpelt p.2 = true := by
  obtain ⟨r, t, h1, _, h3, h4⟩ := said_mem.mp h
  refine ⟨ok.word _ h1, ?_⟩
  rw [← h4]
  exact (ok.row _ h1).word t h3
theorem w_is_list_of (a : Addr) : ∀ ss n kk, sp_is_list_of a ss n kk → t_is_list_of a (ends kk) (rho0 N_is_list_of ss) ⟨[], n⟩ := by
  rintro ss n kk ⟨b, f, l, rfl, ok, lo, hl, q⟩
  unfold t_is_list_of
  walk_at "d"
  have hm : (l.map eP).length ≤ lim := by rw [List.length_map]; show _ ≤ 16777216; omega
  refine ⟨hm, ?_⟩
  refine runC_bool eP (fun _ => true) l (fun p hp K hK => ?_) ?_
  · have := said_spelt ok (lo.sub p hp)
    exact ⟨p, rfl, this.1, this.2, hK⟩
  refine ⟨_, rfl, ?_⟩
  rw [all_id, List.all_eq_true.mpr fun _ _ => rfl]
  refine br_f.mpr ?_
  refine ⟨l, rfl, lo.asc, hl, br_f.mpr ?_⟩
  refine ⟨b, f, rfl, ok, hm, ?_⟩
  refine runC_bool eP (fun p => decide (p ∈ saidP b)) l (fun p hp K hK => ?_) ?_
  · exact in_pairs (p := p) (k := fun c => K (some (.bl c)) _) hK
  refine ⟨_, rfl, ?_⟩
  rw [all_id, List.all_eq_true.mpr fun p hp => decide_eq_true (lo.sub p hp)]
  refine br_t.mpr ?_
  refine ⟨b, f, l, rfl, ok, ?_⟩
  rw [lo.left]
  exact q
theorem w_check_lot (a : Addr) : ∀ ss n kk, sp_check_lot a ss n kk → t_check_lot a (ends kk) (rho0 N_check_lot ss) ⟨[], n⟩ := by
  rintro ss n kk ⟨b, f, l, rfl, ok, lo, hl, q⟩
  unfold t_check_lot
  walk_at "d"
  refine ⟨b, f, rfl, ?_⟩
  exact ⟨b, f, l, rfl, ok, lo, hl, br_f.mpr q⟩
theorem w_dropped (a : Addr) : ∀ ss n kk, sp_dropped a ss n kk → t_dropped a (ends kk) (rho0 N_dropped ss) ⟨[], n⟩ := by
  rintro ss n kk ⟨b, f, l, rfl, ok, hf, lo, hl, q⟩
  unfold t_dropped
  walk_at "d"
  exact ⟨b, f, l, rfl, ok, lo, hl, b, f, l, rfl, ok, hf, lo.left, q⟩
end DL
/-! ## KS13 -/
namespace DL
open PySem PySem.Spec PyProof.Rows L2
local macro_rules | `(tactic| walk_at "d") => `(tactic| simp only [rSeq, rSet, rRet, rIfS, rFor, rDrop, rNext, rDead, rBrk, rCont, rPur, rPurSet, rVar, rC, rBin, rCh, rAndV, rOrV, rNotV, rAnd, rOr, rNot, rIf, rT, rCB, rCons, rNil, rCall, rIsi, rIsi2, rIsiC, rSl, rNo, rPt, rNeg, rRev, rTup, rLst, rLstH, rDctH, rDct0, rDisp, rDispH, rP0, rP1, rPar, rPar3, rUnp, rAsg, rAug, iIt, iRng, iRng2, iItems, iVals, iZip, gNm, rMut, rPut, rFrz, rLC, rSetLc, rDc, rDcH, rDC, rYes, rStar, rMeth0, rMake, rFldSet, rEqO, rTur, rJoin, rBits, rIndexD, rList_values, rList_items, rFld, rLC2, rIn, wipeR, br_t, br_f, rho0, ends, endsI, q_sel, q_isB, q_isPur, q_isI, q_strD, q_lstD, q_dkD, q_dkS, q_argS0, q_argSc, q_argSp, q_coldS, q_onS, q_noTy_non, q_noTy_bl, q_noTy_int, q_noTy_str, q_noTy_lst, q_noTy_tup, q_noTy_dk, q_noTy_obj, q_addI, q_addS, q_addL, q_addT, q_intD, q_ltI, q_ltS, q_g1, q_g2, q_lenL, q_lenT, q_lenK, q_lenS, q_intOf, q_listL, q_listT, q_listK, q_listS, q_iterL, q_iterT, q_iterK, q_iterS, q_ixL, q_ixT, q_ixS, q_ixK, q_slS, q_slL, q_inL, q_inK, q_inS, q_inV, q_ninV, q_eqD, q_neD, q_rdC, q_rdH, q_hotL, q_hotK, q_setM0, q_setM1, q_nth0, q_nthS, q_colds0, q_colds1, q_keyI, q_keyS, q_app, q_ins, q_gTp, q_gLs, q_gCs, q_gNl, q_frz0, q_frz1, q_thN, q_thC, q_thP, q_thH, q_putS, q_objS, q_fld, q_objP, q_zipL, q_zipT, q_all, q_any, q_kit_NoneType_bool, q_kit_NoneType_int, q_kit_NoneType_str, q_kit_NoneType_list, q_kit_NoneType_tuple, q_kit_NoneType_dict, q_kit_bool_bool, q_kit_bool_int, q_kit_bool_str, q_kit_bool_list, q_kit_bool_tuple, q_kit_bool_dict, q_kit_int_bool, q_kit_int_int, q_kit_int_str, q_kit_int_list, q_kit_int_tuple, q_kit_int_dict, q_kit_str_bool, q_kit_str_int, q_kit_str_str, q_kit_str_list, q_kit_str_tuple, q_kit_str_dict, q_kit_list_bool, q_kit_list_int, q_kit_list_str, q_kit_list_list, q_kit_list_tuple, q_kit_list_dict, q_kit_tuple_bool, q_kit_tuple_int, q_kit_tuple_str, q_kit_tuple_list, q_kit_tuple_tuple, q_kit_tuple_dict, q_kit_dict_bool, q_kit_dict_int, q_kit_dict_str, q_kit_dict_list, q_kit_dict_tuple, q_kit_dict_dict, List.map_cons, List.map_nil, List.length_cons, List.length_nil, List.append_nil, List.cons_append, List.nil_append, List.set_cons_zero, List.set_cons_succ, List.replicate_succ, List.replicate_zero, Nat.reduceSub, Nat.reduceAdd, tyN, List.getD_cons_zero, List.getD_cons_succ, if_true, if_false, true_and, and_true, Nat.zero_add, List.set_nil, Bool.not_true, Bool.not_false])
/-! ### a desk without a lot -/
theorem wo_keys (b : Book) (l : Lot) : (woB b l).map (·.1) = b.map (·.1) := by
  unfold woB
  rw [List.map_map]
  rfl
theorem left_row {b : Book} {l : Lot} (h : leftB b l = true) {p : Str × Row} (hp : p ∈ b) (hn : p.2.turns ≠ []) : ∃ t ∈ p.2.turns, (p.1, t.1) ∉ l := by
  have := List.all_eq_true.mp h p hp
  rw [decide_eq_false hn, Bool.false_or, List.any_eq_true] at this
  obtain ⟨t, h1, h2⟩ := this
  exact ⟨t, h1, of_decide_eq_true h2⟩
theorem ok_wo {b : Book} {l : Lot} (ok : OkBook b) (h : leftB b l = true) : OkBook (woB b l) where
  ne := fun e => ok.ne (List.map_eq_nil_iff.mp e)
  nd := by rw [wo_keys]; exact ok.nd
  len := by unfold woB; rw [List.length_map]; exact ok.len
  word := fun p hp => by
    obtain ⟨q, hq, rfl⟩ := List.mem_map.mp hp
    exact ok.word q hq
  row := fun p hp => by
    rw [wo_keys]
    obtain ⟨q, hq, rfl⟩ := List.mem_map.mp hp
    have o := ok.row q hq
    refine ⟨o.kind, ?_, ?_, ?_, ?_, ?_⟩
    · constructor
      · intro hk
        show List.filter _ q.2.turns = []
        rw [o.done.mp hk]
        rfl
      · intro he
        refine o.done.mpr (Classical.byContradiction fun hn => ?_)
        obtain ⟨t, h1, h2⟩ := left_row h hq hn
        have : t ∈ List.filter (fun t => decide ((q.1, t.1) ∉ l)) q.2.turns := List.mem_filter.mpr ⟨h1, decide_eq_true h2⟩
        rw [show List.filter (fun t => decide ((q.1, t.1) ∉ l)) q.2.turns = [] from he] at this
        cases this
    · exact o.nd.sublist (List.Sublist.map _ List.filter_sublist)
    · exact Nat.le_trans (List.length_filter_le _ _) o.len
    · exact fun t ht => o.word t (List.mem_filter.mp ht).1
    · exact fun t ht => o.goal t (List.mem_filter.mp ht).1
abbrev eTn (t : Str × Str) : D := .tup [.str t.1, .str t.2]
theorem items_turns (t : List (Str × Str)) : (eT D.str t).map (fun p => D.tup [kD p.1, p.2]) = t.map eTn := by
  unfold eT
  rw [List.map_map]
  rfl
/-- a dict comprehension over items, those that stay -/
theorem runA_items {body : D → List (Key × D) → Mu → KvK → Prop} {μ : Mu} {kk : KvK} (p : Str × Str → Bool) : ∀ (ts acc : List (Str × Str)), (acc.map (·.1) ++ ts.map (·.1)).Nodup → (∀ t ∈ ts, ∀ (acc : List (Key × D)) (K : KvK), K (if p t = true then putD acc (.inr t.1) (.str t.2) else acc) μ → body (eTn t) acc μ K) →
    kk (eT D.str (acc ++ ts.filter p)) μ → runA body (ts.map eTn) (eT D.str acc) μ kk
  | [], acc, _, _, h => by simpa [runA] using h
  | t :: ts, acc, nd, hb, h => by
    rw [List.map_cons]
    refine hb t (by simp) _ _ ?_
    have hnew : t.1 ∉ acc.map (·.1) := fun hp => by
      rw [List.nodup_append] at nd
      exact nd.2.2 t.1 hp t.1 (by simp) rfl
    by_cases hk : p t = true
    · rw [if_pos hk, putD_e, putT_new hnew]
      refine runA_items p ts _ (by simpa using nd) (fun k' h' => hb k' (by simp [h'])) ?_
      simpa [hk] using h
    · rw [if_neg hk]
      refine runA_items p ts _ ?_ (fun k' h' => hb k' (by simp [h'])) ?_
      · refine nd.sublist (List.Sublist.append (List.Sublist.refl _) ?_)
        rw [List.map_cons]
        exact List.sublist_cons_self _ _
      · simpa [hk] using h
theorem getT_of {α : Type} [Inhabited α] {t : List (Str × α)} {k : Str} (h : k ∈ t.map (·.1)) : (k, getT t k) ∈ t := (getT_mem h).1
theorem ordT_mem {α : Type} [Inhabited α] {t : List (Str × α)} (nd : (t.map (·.1)).Nodup) {p : Str × α} : p ∈ ordT t ↔ p ∈ t := by
  unfold ordT
  rw [List.mem_map]
  constructor
  · rintro ⟨k, hk, rfl⟩
    exact getT_of (sort_mem.mp hk)
  · intro hp
    exact ⟨p.1, sort_mem.mpr (List.mem_map_of_mem hp), by rw [find_getT nd hp]⟩
theorem ordT_keys {α : Type} [Inhabited α] (t : List (Str × α)) : (ordT t).map (·.1) = sortS (t.map (·.1)) := by
  unfold ordT
  rw [List.map_map]
  exact List.map_id _
theorem ordB_keys (b : Book) : (ordB b).map (·.1) = sortS (b.map (·.1)) := by
  unfold ordB
  rw [List.map_map]
  exact List.map_id _
theorem ordB_mem {b : Book} (nd : (b.map (·.1)).Nodup) {p : Str × Row} : p ∈ ordB b ↔ ∃ r, (p.1, r) ∈ b ∧ p.2 = ordR r := by
  unfold ordB
  rw [List.mem_map]
  constructor
  · rintro ⟨k, hk, rfl⟩
    exact ⟨_, getT_of (sort_mem.mp hk), rfl⟩
  · rintro ⟨r, hr, h2⟩
    have hk : p.1 ∈ b.map (·.1) := List.mem_map.mpr ⟨(p.1, r), hr, rfl⟩
    refine ⟨p.1, sort_mem.mpr hk, ?_⟩
    have := find_getT nd hr
    simp only at this
    rw [this, ← h2]
theorem sort_len (ks : List Str) : (sortS ks).length = ks.length := (List.mergeSort_perm ks _).length_eq
theorem ok_ordR {keys keys2 : List Str} {r : Row} (o : OkRow keys r) (h : ∀ k, k ∈ keys → k ∈ keys2) : OkRow keys2 (ordR r) := by
  have m : ∀ {p}, p ∈ ordT r.turns ↔ p ∈ r.turns := fun {p} => ordT_mem o.nd
  refine ⟨o.kind, ?_, ?_, ?_, fun p hp => o.word p (m.mp hp), fun p hp => h _ (o.goal p (m.mp hp))⟩
  · show r.kind = "done" ↔ ordT r.turns = []
    rw [o.done]
    constructor
    · intro e
      rw [e]
      exact List.map_eq_nil_iff.mpr (List.length_eq_zero_iff.mp (sort_len []))
    · intro e
      cases ht : r.turns with
      | nil => rfl
      | cons x t =>
        have := (m (p := x)).mpr (by rw [ht]; simp)
        rw [e] at this
        cases this
  · show ((ordT r.turns).map (·.1)).Nodup
    rw [ordT_keys]
    exact sort_nd o.nd
  · show (ordT r.turns).length ≤ 6
    have : (ordT r.turns).length = (sortS (r.turns.map (·.1))).length := by rw [← ordT_keys, List.length_map]
    rw [this, sort_len, List.length_map]
    exact o.len
theorem ok_ord {b : Book} (ok : OkBook b) : OkBook (ordB b) := by
  have kl : (ordB b).length = b.length := by
    have : (ordB b).length = (sortS (b.map (·.1))).length := by rw [← ordB_keys, List.length_map]
    rw [this, sort_len, List.length_map]
  refine ⟨fun e => ok.ne ?_, by rw [ordB_keys]; exact sort_nd ok.nd, by rw [kl]; exact ok.len, fun p hp => ?_, fun p hp => ?_⟩
  · rw [e] at kl
    exact List.length_eq_zero_iff.mp kl.symm
  · obtain ⟨r, hr, _⟩ := (ordB_mem ok.nd).mp hp
    exact ok.word (p.1, r) hr
  · obtain ⟨r, hr, e⟩ := (ordB_mem ok.nd).mp hp
    rw [e]
    refine ok_ordR (ok.row _ hr) fun k hk => ?_
    rw [ordB_keys]
    exact sort_mem.mpr hk
theorem w_without (a : Addr) : ∀ ss n kk, sp_without a ss n kk → t_without a (ends kk) (rho0 N_without ss) ⟨[], n⟩ := by
  rintro ss n kk ⟨b, f, l, rfl, ok, hf, hl, q⟩
  unfold t_without
  walk_at "d"
  unfold t_without_1
  walk_at "d"
  show fldD a "rows" (.obj a [("rows", eBook b), ("first", .str f)]) _
  walk_at "d"
  rw [lk_rows, e_book]
  walk_at "d"
  show runF _ ((eT eRow b).map fun p => D.tup [kD p.1, p.2]) _ _ _
  rw [items_book]
  refine runF_of eIt b (fun dn ρ μ => ∃ x3 x4 x5, ρ = [some (S.c (eDesk a b f)), some (S.c (ePairs l)), some (.hot 0), x3, x4, x5, none, none] ∧ μ = ⟨[.dk (eT eRow (woB dn l))], n⟩) ⟨_, _, _, rfl, rfl⟩ ?_ ?_
  · rintro dn p zs ρ μ k e ⟨x3, x4, x5, rfl, rfl⟩ hk
    have hp : p ∈ b := by rw [e]; simp
    have o := ok.row p hp
    unfold t_without_1_b eIt eRow
    walk_at "d"
    rw [e_turns, q_dkS, items_turns]
    have tl := o.len
    refine ⟨by rw [List.length_map]; show _ ≤ 16777216; omega, ?_⟩
    refine runA_items (μ := ⟨[.dk (eT eRow (woB dn l))], n⟩) (fun t => decide ((p.1, t.1) ∉ l)) p.2.turns [] (by simpa using o.nd) (fun t ht acc K hK => ?_) ?_
    · unfold dcB eTn
      walk_at "d"
      refine ⟨by decide, ?_⟩
      refine in_pairs (p := (p.1, t.1)) (k := fun c => br (!c) _ _) ?_
      by_cases hm : (p.1, t.1) ∈ l
      · rw [decide_eq_true hm]
        refine br_f.mpr ?_
        rw [if_neg (by simpa using hm)] at hK
        exact hK
      · rw [decide_eq_false hm]
        refine br_t.mpr ?_
        rw [if_pos (by simpa using hm)] at hK
        exact hK
    · rw [List.nil_append]
      have hd : dn.length < b.length := by rw [e]; simp
      have := ok.len
      refine ⟨by decide, ?_⟩
      show _ ∧ k _ ⟨[.dk (putD (eT eRow (woB dn l)) (.inr p.1) (eRow (woR p.1 l p.2)))], n⟩
      refine ⟨by unfold eT woB; simp only [List.length_map]; show _ < 16777216; omega, ?_⟩
      rw [putD_e]
      have hnew : p.1 ∉ (woB dn l).map (·.1) := by
        rw [wo_keys]
        have nd := ok.nd
        rw [e, List.map_append, List.nodup_append] at nd
        exact fun hx => nd.2.2 p.1 hx p.1 (by simp) rfl
      rw [putT_new hnew]
      refine hk _ _ ⟨_, _, _, rfl, ?_⟩
      have e4 : woB (dn ++ [p]) l = woB dn l ++ [(p.1, woR p.1 l p.2)] := by unfold woB; rw [List.map_append]; rfl
      rw [e4]
  · rintro ρ μ ⟨x3, x4, x5, rfl, rfl⟩
    unfold t_without_2
    walk_at "d"
    show fldD a "first" (.obj a [("rows", eBook b), ("first", .str f)]) _
    walk_at "d"
    rw [lk_first]
    walk_at "d"
    exact ⟨woB b l, f, rfl, ok_wo ok hl, by rw [wo_keys]; exact hf, q⟩
theorem w_rescues (a : Addr) : ∀ ss n kk, sp_rescues a ss n kk → t_rescues a (ends kk) (rho0 N_rescues ss) ⟨[], n⟩ := by
  rintro ss n kk ⟨b, f, rfl, ok, hf, hl, q⟩
  have h64 := lots_sort_len hl
  have hsub : ∀ x ∈ srt (lexL ltP) (lotsP (saidP b)), x.length ≤ 6 := fun x hx => by
    have := ((lots_mem _ _).mp ((srt_perm _ _).mem_iff.mp hx)).length_le
    omega
  unfold t_rescues
  walk_at "d"
  refine ⟨b, f, rfl, ?_⟩
  refine ⟨b, f, rfl, ok, hl, ?_⟩
  have fl : ∀ p : Lot → Bool, ((srt (lexL ltP) (lotsP (saidP b))).filter p).length ≤ 64 := fun p => Nat.le_trans (List.length_filter_le _ _) h64
  have := fl (leftB b)
  refine ⟨by rw [List.length_map]; show _ ≤ 16777216; omega, ?_⟩
  refine runC_of eL (fun l => viabB (ordB (woB b l)) f) eL _ [] (fun l hm K hK => ?_) ?_
  · have hm := List.mem_filter.mp hm
    refine ⟨b, f, l, rfl, ok, hf, hm.2, ?_⟩
    refine ⟨ordB (woB b l), f, rfl, ok_ord (ok_wo ok hm.2), ?_⟩
    refine br_i (fun h => ?_) fun h => ?_
    · rw [h] at hK; exact hK
    · rw [h] at hK; exact hK
  · rw [List.nil_append, List.filter_filter]
    have e5 : (fun l => viabB (ordB (woB b l)) f && leftB b l) = fun l => leftB b l && viabB (ordB (woB b l)) f := funext fun l => Bool.and_comm _ _
    rw [e5]
    refine ⟨_, rfl, fl _, fun x hx => hsub x (List.mem_filter.mp hx).1, q⟩
end DL
/-! ## KS14 -/
namespace DL
open PySem PySem.Spec PyProof.Rows L2
local macro_rules | `(tactic| walk_at "d") => `(tactic| simp only [rSeq, rSet, rRet, rIfS, rFor, rDrop, rNext, rDead, rBrk, rCont, rPur, rPurSet, rVar, rC, rBin, rCh, rAndV, rOrV, rNotV, rAnd, rOr, rNot, rIf, rT, rCB, rCons, rNil, rCall, rIsi, rIsi2, rIsiC, rSl, rNo, rPt, rNeg, rRev, rTup, rLst, rLstH, rDctH, rDct0, rDisp, rDispH, rP0, rP1, rPar, rPar3, rUnp, rAsg, rAug, iIt, iRng, iRng2, iItems, iVals, iZip, gNm, rMut, rPut, rFrz, rLC, rSetLc, rDc, rDcH, rDC, rYes, rStar, rMeth0, rMake, rFldSet, rEqO, rTur, rJoin, rBits, rIndexD, rList_values, rList_items, rFld, rLC2, rIn, wipeR, br_t, br_f, rho0, ends, endsI, q_sel, q_isB, q_isPur, q_isI, q_strD, q_lstD, q_dkD, q_dkS, q_argS0, q_argSc, q_argSp, q_coldS, q_onS, q_noTy_non, q_noTy_bl, q_noTy_int, q_noTy_str, q_noTy_lst, q_noTy_tup, q_noTy_dk, q_noTy_obj, q_addI, q_addS, q_addL, q_addT, q_intD, q_ltI, q_ltS, q_g1, q_g2, q_lenL, q_lenT, q_lenK, q_lenS, q_intOf, q_listL, q_listT, q_listK, q_listS, q_iterL, q_iterT, q_iterK, q_iterS, q_ixL, q_ixT, q_ixS, q_ixK, q_slS, q_slL, q_inL, q_inK, q_inS, q_inV, q_ninV, q_eqD, q_neD, q_rdC, q_rdH, q_hotL, q_hotK, q_setM0, q_setM1, q_nth0, q_nthS, q_colds0, q_colds1, q_keyI, q_keyS, q_app, q_ins, q_gTp, q_gLs, q_gCs, q_gNl, q_frz0, q_frz1, q_thN, q_thC, q_thP, q_thH, q_putS, q_objS, q_fld, q_objP, q_zipL, q_zipT, q_all, q_any, q_kit_NoneType_bool, q_kit_NoneType_int, q_kit_NoneType_str, q_kit_NoneType_list, q_kit_NoneType_tuple, q_kit_NoneType_dict, q_kit_bool_bool, q_kit_bool_int, q_kit_bool_str, q_kit_bool_list, q_kit_bool_tuple, q_kit_bool_dict, q_kit_int_bool, q_kit_int_int, q_kit_int_str, q_kit_int_list, q_kit_int_tuple, q_kit_int_dict, q_kit_str_bool, q_kit_str_int, q_kit_str_str, q_kit_str_list, q_kit_str_tuple, q_kit_str_dict, q_kit_list_bool, q_kit_list_int, q_kit_list_str, q_kit_list_list, q_kit_list_tuple, q_kit_list_dict, q_kit_tuple_bool, q_kit_tuple_int, q_kit_tuple_str, q_kit_tuple_list, q_kit_tuple_tuple, q_kit_tuple_dict, q_kit_dict_bool, q_kit_dict_int, q_kit_dict_str, q_kit_dict_list, q_kit_dict_tuple, q_kit_dict_dict, List.map_cons, List.map_nil, List.length_cons, List.length_nil, List.append_nil, List.cons_append, List.nil_append, List.set_cons_zero, List.set_cons_succ, List.replicate_succ, List.replicate_zero, Nat.reduceSub, Nat.reduceAdd, tyN, List.getD_cons_zero, List.getD_cons_succ, if_true, if_false, true_and, and_true, Nat.zero_add, List.set_nil, Bool.not_true, Bool.not_false])
/-! ### the law's own -/
theorem keys_at {α : Type} {f : α → D} (t : List (Str × α)) : (eT f t).map (fun p => kD p.1) = t.map fun p => D.str p.1 := by
  unfold eT
  rw [List.map_map]
  rfl
theorem pairs_e {α : Type} {f : α → D} {k : List (Key × D) → Prop} : ∀ ts : List (Str × α), pairs (ts.map fun t => .tup [.str t.1, f t.2]) k = k (eT f ts) := fun ts => by
  induction ts generalizing k with
  | nil => rfl
  | cons t ts ih =>
    rw [List.map_cons]
    have : pairs (D.tup [D.str t.1, f t.2] :: List.map (fun t => D.tup [D.str t.1, f t.2]) ts) k = pairs (List.map (fun t => D.tup [D.str t.1, f t.2]) ts) fun kvs => k ((.inr t.1, f t.2) :: kvs) := rfl
    rw [this, ih]
    rfl
theorem dict_e {α : Type} {f : α → D} {k : D → Prop} {ts : List (Str × α)} (nd : (ts.map (·.1)).Nodup) (h : k (.dk (eT f ts))) : dictOfD (.lst (ts.map fun t => .tup [.str t.1, f t.2])) k := by
  show pairs _ _
  rw [pairs_e]
  have := merge_e (f := f) ts [] (by simpa using nd)
  rw [List.nil_append] at this
  show k (.dk (mergeD (eT f []) (eT f ts)))
  rw [this]
  exact h
theorem ix_w0 {w : Wd} {k : D → Prop} : ixD (eWorld w) (.int 0) k = k (eBook w.book) := by
  unfold eWorld
  rw [q_ixL, atI_zero, q_onS]
theorem ix_w1 {w : Wd} {k : D → Prop} : ixD (eWorld w) (.int 1) k = k (.str w.first) := by
  unfold eWorld
  rw [q_ixL, atI_one, q_onS]
theorem w_said_words (a : Addr) : ∀ ss n kk, sp_l_said_words a ss n kk → t_l_said_words a (ends kk) (rho0 N_l_said_words ss) ⟨[], n⟩ := by
  rintro ss n kk ⟨w, rfl, ok, q⟩
  have hsl := said_len ok.book
  unfold t_l_said_words
  walk_at "d"
  unfold t_l_said_words_1
  walk_at "d"
  refine ⟨by decide, ?_⟩
  rw [ix_w0, e_book]
  walk_at "d"
  rw [keys_at]
  refine runF_of (fun p : Str × Row => D.str p.1) w.book (fun dn ρ μ => ∃ x2, ρ = [some (S.c (eWorld w)), some (.c (ePairs (saidP dn))), x2, none] ∧ μ = ⟨[], n⟩) ⟨_, rfl, rfl⟩ ?_ ?_
  · rintro dn p zs ρ μ k e ⟨x2, rfl, rfl⟩ hk
    have hp : p ∈ w.book := by rw [e]; simp
    have hpk : p.1 ∈ w.book.map (·.1) := List.mem_map_of_mem hp
    have o := ok.book.row p hp
    have hr := find_getT ok.book.nd hp
    have es : saidP (dn ++ [p]) = saidP dn ++ (if p.2.kind = ("says" : Str) then p.2.turns.map fun t => (p.1, t.1) else []) := by
      unfold saidP
      rw [List.flatMap_append, List.flatMap_cons, List.flatMap_nil, List.append_nil]
    have hle : (saidP dn).length ≤ 36 := by
      have : saidP w.book = saidP dn ++ saidP (p :: zs) := by
        rw [e]; unfold saidP; rw [List.flatMap_append]
      rw [this, List.length_append] at hsl
      omega
    unfold t_l_said_words_1_b
    walk_at "d"
    rw [ix_w0, ix_book hpk, hr, ix_row0]
    refine ⟨rfl, ?_⟩
    rw [eqb_ss]
    refine br_i (fun h => ?_) fun h => ?_
    · have h := of_decide_eq_true h
      rw [if_pos h] at es
      rw [ix_w0, ix_book hpk, hr, ix_row1, e_turns, q_iterK, keys_at]
      have tl := o.len
      refine ⟨by rw [List.length_map]; show _ ≤ 16777216; omega, ?_⟩
      refine runC_all (fun t : Str × Str => D.str t.1) (fun t => eP (p.1, t.1)) _ (fun t ht K hK => ⟨by decide, hK⟩) ?_
      refine ⟨by rw [List.length_map, List.length_map]; show _ ≤ 16777216; omega, ?_⟩
      refine hk _ _ ⟨some (.c (.str p.1)), ?_, rfl⟩
      rw [es]
      simp only [ePairs, List.map_append, List.map_map]
      rfl
    · have h := of_decide_eq_false h
      rw [if_neg h, List.append_nil] at es
      refine hk _ _ ⟨some (.c (.str p.1)), ?_, rfl⟩
      rw [es]
  · rintro ρ μ ⟨x2, rfl, rfl⟩
    unfold t_l_said_words_2
    walk_at "d"
    exact .inr (.inl ⟨_, rfl, q⟩)
theorem dict_turns {k : D → Prop} {t : List (Str × Str)} (h : k (eTurns t)) : dictOfD (eTurns t) k := h
theorem ix_turns {t : List (Str × Str)} {z : Str} {k : D → Prop} (h : z ∈ t.map (·.1)) : ixD (eTurns t) (.str z) k = k (.str (getT t z)) := by
  rw [e_turns, q_ixK, getK_e (f := D.str) h, q_onS]
theorem gtp_row {g1 g2 : RG} {r : Row} {ρ : Rho} {k : Rho → Prop} (h : g1 (.str r.kind) ρ fun ρ' => g2 (eTurns r.turns) ρ' k) : gTp 2 (gCs g1 (gCs g2 gNl)) (eRow r) ρ k := ⟨rfl, h⟩
theorem agrk_nil : ∀ as : List (Key × D), agrk as [] = true
  | [] => by simp [agrk]
  | (k, a) :: as => by simp only [agrk, List.find?_nil, agrk_nil as, Bool.and_self]
theorem cmp_dnil {t : List (Str × Str)} (nd : (t.map (·.1)).Nodup) : cmpOk (eTurns t) (.dk []) = true := by
  obtain ⟨h1, h2⟩ := turns_ok nd
  have h3 : agr (eTurns t) (.dk []) = true := by
    unfold eTurns
    simp only [agr]
    exact agrk_nil _
  unfold cmpOk
  rw [h1, h3, decide_eq_true (show dep (eTurns t) ≤ 60 by omega)]
  rfl
theorem w_l_desk (a : Addr) : ∀ ss n kk, sp_l_desk a ss n kk → t_l_desk a (ends kk) (rho0 N_l_desk ss) ⟨[], n⟩ := by
  rintro ss n kk ⟨w, rfl, ok, q⟩
  have hl := ok.book.len
  unfold t_l_desk
  walk_at "d"
  rw [ix_w0, e_book]
  walk_at "d"
  rw [keys_at]
  refine ⟨by rw [List.length_map]; show _ ≤ 16777216; omega, ?_⟩
  refine runC_all (fun p : Str × Row => D.str p.1) (fun p => .tup [.str p.1, eRow p.2]) _ (fun p hp K hK => ?_) ?_
  · have hpk : p.1 ∈ w.book.map (·.1) := List.mem_map_of_mem hp
    have hr := find_getT ok.book.nd hp
    rw [ix_w0, ix_book hpk, hr, ix_row0, ix_w0, ix_book hpk, hr, ix_row1]
    exact dict_turns ⟨by decide, by decide, hK⟩
  · refine dict_e (f := eRow) ok.book.nd ?_
    rw [ix_w1]
    exact ⟨w.book, w.first, rfl, ok.book, ok.first, q⟩
theorem w_l_without (a : Addr) : ∀ ss n kk, sp_l_without a ss n kk → t_l_without a (ends kk) (rho0 N_l_without ss) ⟨[], n⟩ := by
  rintro ss n kk ⟨w, l, rfl, ok, q⟩
  have hl := ok.book.len
  unfold t_l_without
  walk_at "d"
  unfold t_l_without_1
  walk_at "d"
  rw [ix_w0, e_book]
  walk_at "d"
  rw [keys_at]
  refine runF_of (fun p : Str × Row => D.str p.1) w.book (fun dn ρ μ => ∃ x3 x4 x5, ρ = [some (S.c (eWorld w)), some (S.c (ePairs l)), some (.hot 0), x3, x4, x5, none] ∧ μ = ⟨[.dk (eT eRow (woB dn l))], n⟩ ∧ dn.all (lfP l) = true) ⟨_, _, _, rfl, rfl, rfl⟩ ?_ ?_
  · rintro dn p zs ρ μ k e ⟨x3, x4, x5, rfl, rfl, hd⟩ hk
    have hp : p ∈ w.book := by rw [e]; simp
    have hpk : p.1 ∈ w.book.map (·.1) := List.mem_map_of_mem hp
    have o := ok.book.row p hp
    have tl := o.len
    have hr := find_getT ok.book.nd hp
    have e4 : woB (dn ++ [p]) l = woB dn l ++ [(p.1, woR p.1 l p.2)] := by unfold woB; rw [List.map_append]; rfl
    unfold t_l_without_1_b
    walk_at "d"
    rw [ix_w0, ix_book hpk, hr]
    refine gtp_row ?_
    unfold t_l_without_1_b_1
    walk_at "d"
    rw [e_turns, q_iterK, keys_at]
    refine ⟨by rw [List.length_map]; show _ ≤ 16777216; omega, ?_⟩
    refine runC_of (fun t : Str × Str => D.str t.1) (fun t => decide ((p.1, t.1) ∉ l)) eTn p.2.turns [] (fun t ht K hK => ?_) ?_
    · walk_at "d"
      refine ⟨by decide, in_pairs (p := (p.1, t.1)) (k := fun c => br (!c) _ _) ?_⟩
      have htk : t.1 ∈ p.2.turns.map (·.1) := List.mem_map_of_mem ht
      by_cases hm : (p.1, t.1) ∈ l
      · rw [decide_eq_true hm]
        refine br_f.mpr ?_
        rw [if_neg (by simpa using hm)] at hK
        exact hK
      · rw [decide_eq_false hm]
        refine br_t.mpr ?_
        rw [if_pos (by simpa using hm)] at hK
        rw [getK_e (f := D.str) htk, find_getT o.nd ht, q_onS]
        exact ⟨by decide, hK⟩
    rw [List.nil_append]
    have nd2 : ((p.2.turns.filter fun t => decide ((p.1, t.1) ∉ l)).map (·.1)).Nodup := o.nd.sublist (List.Sublist.map _ List.filter_sublist)
    refine dict_e (f := D.str) nd2 ?_
    have hdl : dn.length < w.book.length := by rw [e]; simp
    refine ⟨by decide, ?_⟩
    walk_at "d"
    refine ⟨by unfold eT woB; simp only [List.length_map]; show _ < 16777216; omega, ?_⟩
    have hnew : p.1 ∉ (woB dn l).map (·.1) := by
      rw [wo_keys]
      have nd := ok.book.nd
      rw [e, List.map_append, List.nodup_append] at nd
      exact fun hx => nd.2.2 p.1 hx p.1 (by simp) rfl
    have hput : putD (eT eRow (woB dn l)) (.inr p.1) (D.tup [.str p.2.kind, .dk (eT D.str (p.2.turns.filter fun t => decide ((p.1, t.1) ∉ l)))]) = eT eRow (woB (dn ++ [p]) l) := by
      show putD (eT eRow (woB dn l)) (.inr p.1) (eRow (woR p.1 l p.2)) = _
      rw [putD_e, putT_new hnew, e4]
    rw [hput]
    unfold t_l_without_1_b_2
    walk_at "d"
    have hin : p.1 ∈ (woB (dn ++ [p]) l).map (·.1) := by rw [wo_keys]; simp
    have hget : getT (woB (dn ++ [p]) l) p.1 = woR p.1 l p.2 := by
      refine find_getT (p := (p.1, woR p.1 l p.2)) ?_ (by rw [e4]; simp)
      rw [wo_keys]
      have nd := ok.book.nd
      rw [e, List.map_append, List.map_cons] at nd
      rw [List.map_append]
      refine nd.sublist (List.Sublist.append (List.Sublist.refl _) ?_)
      simp
    rw [getK_e (f := eRow) hin, hget, q_onS, ix_row1]
    refine ⟨cmp_dnil nd2, ?_⟩
    rw [eqb_dnil]
    have fin : lfP l p = true → k [some (S.c (eWorld w)), some (S.c (ePairs l)), some (S.hot 0), some (S.c (D.str p.1)), some (S.c (D.str p.2.kind)), some (S.c (D.dk (eT D.str p.2.turns))), none] ⟨[.dk (eT eRow (woB (dn ++ [p]) l))], n⟩ :=
      fun h => hk _ _ ⟨_, _, _, rfl, rfl, by rw [List.all_append, hd]; simpa using h⟩
    refine br_i (fun h => ⟨rfl, ?_⟩) fun h => ?_
    · have h := of_decide_eq_true h
      have hn : ∀ t ∈ p.2.turns, (p.1, t.1) ∈ l := fun t ht => Classical.byContradiction fun hn => by
        have : t ∈ (woR p.1 l p.2).turns := List.mem_filter.mpr ⟨ht, decide_eq_true hn⟩
        rw [h] at this
        cases this
      rw [eqb_ss]
      refine br_i (fun h2 => ?_) fun h2 => ?_
      · have hkn : p.2.kind ≠ ("done" : Str) := of_decide_eq_false (by simpa using h2)
        have ht : p.2.turns ≠ [] := fun e => hkn (o.done.mpr e)
        have : leftB w.book l = false := by
          rw [Bool.eq_false_iff]
          intro h3
          obtain ⟨t, h4, h5⟩ := left_row h3 hp ht
          exact h5 (hn t h4)
        rw [this] at q
        exact q
      · have hkn : p.2.kind = ("done" : Str) := of_decide_eq_true (by simpa using h2)
        exact fin (by unfold lfP; rw [decide_eq_true (o.done.mp hkn)]; rfl)
    · have h := of_decide_eq_false h
      obtain ⟨t, ht⟩ := List.exists_mem_of_ne_nil _ h
      have ht := List.mem_filter.mp ht
      exact fin (by unfold lfP; rw [List.any_eq_true.mpr ⟨t, ht.1, ht.2⟩, Bool.or_true])
  · rintro ρ μ ⟨x3, x4, x5, rfl, rfl, hd⟩
    unfold t_l_without_2
    walk_at "d"
    rw [ix_w1]
    refine ⟨by decide, ?_⟩
    rw [if_pos (show leftB w.book l = true from hd)] at q
    exact q
end DL
/-! ## KS15 -/
namespace DL
open PySem PySem.Spec PyProof.Rows L2
local macro_rules | `(tactic| walk_at "d") => `(tactic| simp only [rSeq, rSet, rRet, rIfS, rFor, rDrop, rNext, rDead, rBrk, rCont, rPur, rPurSet, rVar, rC, rBin, rCh, rAndV, rOrV, rNotV, rAnd, rOr, rNot, rIf, rT, rCB, rCons, rNil, rCall, rIsi, rIsi2, rIsiC, rSl, rNo, rPt, rNeg, rRev, rTup, rLst, rLstH, rDctH, rDct0, rDisp, rDispH, rP0, rP1, rPar, rPar3, rUnp, rAsg, rAug, iIt, iRng, iRng2, iItems, iVals, iZip, gNm, rMut, rPut, rFrz, rLC, rSetLc, rDc, rDcH, rDC, rYes, rStar, rMeth0, rMake, rFldSet, rEqO, rTur, rJoin, rBits, rIndexD, rList_values, rList_items, rFld, rLC2, rIn, wipeR, br_t, br_f, rho0, ends, endsI, q_sel, q_isB, q_isPur, q_isI, q_strD, q_lstD, q_dkD, q_dkS, q_argS0, q_argSc, q_argSp, q_coldS, q_onS, q_noTy_non, q_noTy_bl, q_noTy_int, q_noTy_str, q_noTy_lst, q_noTy_tup, q_noTy_dk, q_noTy_obj, q_addI, q_addS, q_addL, q_addT, q_intD, q_ltI, q_ltS, q_g1, q_g2, q_lenL, q_lenT, q_lenK, q_lenS, q_intOf, q_listL, q_listT, q_listK, q_listS, q_iterL, q_iterT, q_iterK, q_iterS, q_ixL, q_ixT, q_ixS, q_ixK, q_slS, q_slL, q_inL, q_inK, q_inS, q_inV, q_ninV, q_eqD, q_neD, q_rdC, q_rdH, q_hotL, q_hotK, q_setM0, q_setM1, q_nth0, q_nthS, q_colds0, q_colds1, q_keyI, q_keyS, q_app, q_ins, q_gTp, q_gLs, q_gCs, q_gNl, q_frz0, q_frz1, q_thN, q_thC, q_thP, q_thH, q_putS, q_objS, q_fld, q_objP, q_zipL, q_zipT, q_all, q_any, q_kit_NoneType_bool, q_kit_NoneType_int, q_kit_NoneType_str, q_kit_NoneType_list, q_kit_NoneType_tuple, q_kit_NoneType_dict, q_kit_bool_bool, q_kit_bool_int, q_kit_bool_str, q_kit_bool_list, q_kit_bool_tuple, q_kit_bool_dict, q_kit_int_bool, q_kit_int_int, q_kit_int_str, q_kit_int_list, q_kit_int_tuple, q_kit_int_dict, q_kit_str_bool, q_kit_str_int, q_kit_str_str, q_kit_str_list, q_kit_str_tuple, q_kit_str_dict, q_kit_list_bool, q_kit_list_int, q_kit_list_str, q_kit_list_list, q_kit_list_tuple, q_kit_list_dict, q_kit_tuple_bool, q_kit_tuple_int, q_kit_tuple_str, q_kit_tuple_list, q_kit_tuple_tuple, q_kit_tuple_dict, q_kit_dict_bool, q_kit_dict_int, q_kit_dict_str, q_kit_dict_list, q_kit_dict_tuple, q_kit_dict_dict, List.map_cons, List.map_nil, List.length_cons, List.length_nil, List.append_nil, List.cons_append, List.nil_append, List.set_cons_zero, List.set_cons_succ, List.replicate_succ, List.replicate_zero, Nat.reduceSub, Nat.reduceAdd, tyN, List.getD_cons_zero, List.getD_cons_succ, if_true, if_false, true_and, and_true, Nat.zero_add, List.set_nil, Bool.not_true, Bool.not_false])
/-! ### plain facts: order, lots -/
theorem sortS_srt (l : List Str) : sortS l = srt slt l := rfl
theorem srt_congr {α : Type} {lt : α → α → Bool} (O : Sto lt) {l l' : List α} (h : l.Perm l') : srt lt l = srt lt l' := srt_eq O ((srt_perm lt l).trans h) (srt_sorted O l)
theorem sort_congr {l l' : List Str} (h : l.Perm l') : sortS l = sortS l' := by
  rw [sortS_srt, sortS_srt]; exact srt_congr sto_slt h
theorem srt_filter {α : Type} {lt : α → α → Bool} (O : Sto lt) (p : α → Bool) (l : List α) : (srt lt l).filter p = srt lt (l.filter p) :=
  srt_eq O ((srt_perm lt l).filter p) ((srt_sorted O l).sublist List.filter_sublist)
theorem ordT_congr {α : Type} [Inhabited α] {t t' : List (Str × α)} (hk : (t.map (·.1)).Perm (t'.map (·.1))) (hg : ∀ k ∈ t.map (·.1), getT t k = getT t' k) : ordT t = ordT t' := by
  unfold ordT
  rw [← sort_congr hk]
  exact List.map_congr_left fun k hk' => by rw [hg k (sort_mem.mp hk')]
theorem ordB_congr {b b' : Book} (hk : (b.map (·.1)).Perm (b'.map (·.1))) (hg : ∀ k ∈ b.map (·.1), ordR (getT b k) = ordR (getT b' k)) : ordB b = ordB b' := by
  unfold ordB
  rw [← sort_congr hk]
  exact List.map_congr_left fun k hk' => by rw [hg k (sort_mem.mp hk')]
theorem ordR_congr {r r' : Row} (h1 : r.kind = r'.kind) (h2 : ordT r.turns = ordT r'.turns) : ordR r = ordR r' := by
  unfold ordR
  rw [h1, h2]
theorem getT_perm {α : Type} [Inhabited α] {t t' : List (Str × α)} (nd : (t.map (·.1)).Nodup) (nd' : (t'.map (·.1)).Nodup) (h : ∀ p, p ∈ t → p ∈ t') {k : Str} (hk : k ∈ t.map (·.1)) : getT t k = getT t' k := by
  have := find_getT nd' (h _ (getT_of hk))
  exact this.symm
/-- turned about -/
def revR (r : Row) : Row := ⟨r.kind, r.turns.reverse⟩
def revB (b : Book) : Book := b.reverse.map fun p => (p.1, revR p.2)
theorem revB_keys (b : Book) : (revB b).map (·.1) = (b.map (·.1)).reverse := by
  unfold revB
  rw [List.map_map, ← List.map_reverse]
  rfl
theorem revB_mem {b : Book} {p : Str × Row} : p ∈ revB b ↔ ∃ r, (p.1, r) ∈ b ∧ p.2 = revR r := by
  unfold revB
  rw [List.mem_map]
  constructor
  · rintro ⟨q, hq, rfl⟩
    exact ⟨q.2, List.mem_reverse.mp hq, rfl⟩
  · rintro ⟨r, hr, h2⟩
    exact ⟨(p.1, r), List.mem_reverse.mpr hr, Prod.ext rfl h2.symm⟩
theorem ok_revB {b : Book} (ok : OkBook b) : OkBook (revB b) where
  ne := fun e => ok.ne (by have := List.map_eq_nil_iff.mp e; exact List.reverse_eq_nil_iff.mp this)
  nd := by rw [revB_keys]; exact (List.reverse_perm _).nodup_iff.mpr ok.nd
  len := by unfold revB; rw [List.length_map, List.length_reverse]; exact ok.len
  word := fun p hp => by
    obtain ⟨r, hr, _⟩ := revB_mem.mp hp
    exact ok.word (p.1, r) hr
  row := fun p hp => by
    obtain ⟨r, hr, e⟩ := revB_mem.mp hp
    rw [e, revB_keys]
    have o := ok.row _ hr
    refine ⟨o.kind, ?_, ?_, ?_, fun t ht => o.word t (List.mem_reverse.mp ht), fun t ht => List.mem_reverse.mpr (o.goal t (List.mem_reverse.mp ht))⟩
    · show r.kind = "done" ↔ r.turns.reverse = []
      rw [o.done, List.reverse_eq_nil_iff]
    · show (r.turns.reverse.map (·.1)).Nodup
      rw [List.map_reverse]; exact (List.reverse_perm _).nodup_iff.mpr o.nd
    · show r.turns.reverse.length ≤ 6
      rw [List.length_reverse]; exact o.len
theorem getT_in {α : Type} [Inhabited α] {t : List (Str × α)} (nd : (t.map (·.1)).Nodup) {k : Str} {r : α} (h : (k, r) ∈ t) : getT t k = r := find_getT nd h
theorem ordR_rev {r : Row} (nd : (r.turns.map (·.1)).Nodup) : ordR (revR r) = ordR r := by
  refine ordR_congr rfl (ordT_congr ?_ fun k hk => ?_)
  · show (r.turns.reverse.map (·.1)).Perm _
    rw [List.map_reverse]; exact List.reverse_perm _
  · refine getT_perm ?_ nd (fun p hp => List.mem_reverse.mp hp) hk
    show (r.turns.reverse.map (·.1)).Nodup
    rw [List.map_reverse]; exact (List.reverse_perm _).nodup_iff.mpr nd
theorem ordB_rev {b : Book} (ok : OkBook b) : ordB (revB b) = ordB b := by
  refine ordB_congr ?_ fun k hk => ?_
  · rw [revB_keys]; exact List.reverse_perm _
  · obtain ⟨r, hr, e⟩ := revB_mem.mp (getT_of hk)
    simp only at e hr
    rw [e, getT_in ok.nd hr, ordR_rev (ok.row _ hr).nd]
theorem ordT_nd {α : Type} [Inhabited α] {t : List (Str × α)} (nd : (t.map (·.1)).Nodup) : ((ordT t).map (·.1)).Nodup := by
  rw [ordT_keys]; exact sort_nd nd
theorem ordR_wo {s : Str} {l : Lot} {r : Row} (nd : (r.turns.map (·.1)).Nodup) : ordR (woR s l (ordR r)) = ordR (woR s l r) := by
  refine ordR_congr rfl ?_
  have m : ∀ p : Str × Str, p ∈ (woR s l (ordR r)).turns ↔ p ∈ (woR s l r).turns := fun p => by
    unfold woR ordR
    rw [List.mem_filter, List.mem_filter, ordT_mem nd]
  have n1 : ((woR s l (ordR r)).turns.map (·.1)).Nodup := (ordT_nd nd).sublist (List.Sublist.map _ List.filter_sublist)
  have n2 : ((woR s l r).turns.map (·.1)).Nodup := nd.sublist (List.Sublist.map _ List.filter_sublist)
  refine ordT_congr ?_ fun k hk => getT_perm n1 n2 (fun p hp => (m p).mp hp) hk
  refine (List.perm_ext_iff_of_nodup n1 n2).mpr fun k => ?_
  rw [List.mem_map, List.mem_map]
  exact ⟨fun ⟨p, hp, e⟩ => ⟨p, (m p).mp hp, e⟩, fun ⟨p, hp, e⟩ => ⟨p, (m p).mpr hp, e⟩⟩
theorem woB_mem {b : Book} {l : Lot} {p : Str × Row} : p ∈ woB b l ↔ ∃ r, (p.1, r) ∈ b ∧ p.2 = woR p.1 l r := by
  unfold woB
  rw [List.mem_map]
  constructor
  · rintro ⟨q, hq, rfl⟩
    exact ⟨q.2, hq, rfl⟩
  · rintro ⟨r, hr, h2⟩
    exact ⟨(p.1, r), hr, Prod.ext rfl h2.symm⟩
theorem ordB_wo {b : Book} (ok : OkBook b) (l : Lot) : ordB (woB (ordB b) l) = ordB (woB b l) := by
  refine ordB_congr ?_ fun k hk => ?_
  · rw [wo_keys, wo_keys, ordB_keys]
    exact List.mergeSort_perm _ _
  · obtain ⟨r, hr, e⟩ := woB_mem.mp (getT_of hk)
    obtain ⟨r2, hr2, e2⟩ := (ordB_mem ok.nd).mp hr
    simp only at e hr e2 hr2
    have nd2 : ((woB b l).map (·.1)).Nodup := by rw [wo_keys]; exact ok.nd
    have h3 : (k, woR k l r2) ∈ woB b l := woB_mem.mpr ⟨r2, hr2, rfl⟩
    rw [e, e2, getT_in nd2 h3, ordR_wo (ok.row _ hr2).nd]
/-- what an end can be come to by is alike -/
theorem Reach.congr {b b' : Book} (h : ∀ s r, (s, r) ∈ b → ∃ r', (s, r') ∈ b' ∧ r'.kind = r.kind ∧ ∀ t, t ∈ r'.turns ↔ t ∈ r.turns) {L : Str → Prop} {s : Str} (x : Reach b L s) : Reach b' L s := by
  induction x with
  | done hb hl hk =>
    obtain ⟨r', h1, h2, h3⟩ := h _ _ hb
    exact .done h1 hl (h2.trans hk)
  | step hb hl ht hr hk ih =>
    obtain ⟨r', h1, h2, h3⟩ := h _ _ hb
    exact .step h1 hl ((h3 _).mpr ht) ih (hk.imp (fun e => h2.trans e) fun g u hu => g u ((h3 u).mp hu))
theorem Viab.congr {b b' : Book} (h : ∀ s r, (s, r) ∈ b → ∃ r', (s, r') ∈ b' ∧ r'.kind = r.kind ∧ ∀ t, t ∈ r'.turns ↔ t ∈ r.turns) {s : Str} (x : Viab b s) : Viab b' s := by
  obtain ⟨L, h1, h2⟩ := x
  exact ⟨L, fun u hu => (h1 u hu).congr h, h2⟩
theorem viab_ord {b : Book} (ok : OkBook b) (s : Str) : Viab (ordB b) s ↔ Viab b s := by
  constructor
  · refine Viab.congr fun s r h => ?_
    obtain ⟨r2, h2, e⟩ := (ordB_mem ok.nd).mp h
    simp only at h2 e
    refine ⟨r2, h2, by rw [e]; rfl, fun t => ?_⟩
    rw [e]
    exact (ordT_mem (ok.row _ h2).nd).symm
  · refine Viab.congr fun s r h => ⟨ordR r, (ordB_mem ok.nd).mpr ⟨r, h, rfl⟩, rfl, fun t => ordT_mem (ok.row _ h).nd⟩
theorem viabB_ord {b : Book} (ok : OkBook b) (s : Str) : viabB (ordB b) s = viabB b s := by
  unfold viabB
  classical
  rw [decide_eq_decide]
  exact viab_ord ok s
theorem left_iff {b : Book} {l : Lot} : leftB b l = true ↔ ∀ p ∈ b, p.2.turns ≠ [] → ∃ t ∈ p.2.turns, (p.1, t.1) ∉ l := by
  constructor
  · exact fun h p hp hn => left_row h hp hn
  · intro h
    refine List.all_eq_true.mpr fun p hp => ?_
    by_cases hn : p.2.turns = []
    · rw [decide_eq_true hn]; rfl
    · obtain ⟨t, h1, h2⟩ := h p hp hn
      rw [List.any_eq_true.mpr ⟨t, h1, decide_eq_true h2⟩, Bool.or_true]
theorem left_ord {b : Book} (ok : OkBook b) (l : Lot) : leftB (ordB b) l = leftB b l := by
  rw [Bool.eq_iff_iff, left_iff, left_iff]
  constructor
  · intro h p hp hn
    have o := ok.row p hp
    obtain ⟨t, h1, h2⟩ := h (p.1, ordR p.2) ((ordB_mem ok.nd).mpr ⟨p.2, hp, rfl⟩) fun e => by
      obtain ⟨t, ht⟩ := List.exists_mem_of_ne_nil _ hn
      have := (ordT_mem o.nd).mpr ht
      rw [show ordT p.2.turns = [] from e] at this
      cases this
    exact ⟨t, (ordT_mem o.nd).mp h1, h2⟩
  · intro h p hp hn
    obtain ⟨r, hr, e⟩ := (ordB_mem ok.nd).mp hp
    have o := ok.row _ hr
    obtain ⟨t, h1, h2⟩ := h (p.1, r) hr fun e2 => by
      obtain ⟨t, ht⟩ := List.exists_mem_of_ne_nil _ hn
      rw [e] at ht
      have := (ordT_mem o.nd).mp ht
      rw [show r.turns = [] from e2] at this
      cases this
    refine ⟨t, ?_, h2⟩
    rw [e]
    exact (ordT_mem o.nd).mpr h1
theorem left_mono {b : Book} {l l' : Lot} (h : leftB b l = true) (hs : ∀ p ∈ l', p ∈ l) : leftB b l' = true := by
  rw [left_iff] at h ⊢
  intro p hp hn
  obtain ⟨t, h1, h2⟩ := h p hp hn
  exact ⟨t, h1, fun h3 => h2 (hs _ h3)⟩
theorem slt_lt {xs : List Str} (nd : xs.Nodup) : (sortS xs).Pairwise fun x y => slt x y = true := by
  have h1 := srt_sorted sto_slt xs
  have h2 : (srt slt xs).Nodup := (srt_perm slt xs).nodup_iff.mpr nd
  rw [sortS_srt]
  refine (List.pairwise_and_iff.mpr ⟨h1, h2⟩).imp fun {x y} h => ?_
  cases e : slt x y with
  | true => rfl
  | false => exact absurd (sto_slt.tri x y e h.1) h.2
theorem ltP_said {b : Book} (ok : OkBook b) : (saidP (ordB b)).Pairwise fun x y => ltP x y = true := by
  unfold saidP
  rw [List.pairwise_flatMap]
  constructor
  · intro p hp
    obtain ⟨r, hr, e⟩ := (ordB_mem ok.nd).mp hp
    split
    · rw [e]
      show (List.map _ (ordT r.turns)).Pairwise _
      unfold ordT
      rw [List.map_map, List.pairwise_map]
      refine (slt_lt (ok.row _ hr).nd).imp fun {x y} h => ?_
      simp only [ltP, Function.comp, h, decide_true, Bool.and_self, Bool.or_true]
    · exact List.Pairwise.nil
  · unfold ordB
    rw [List.pairwise_map]
    refine (slt_lt ok.nd).imp fun {x y} h => ?_
    intro u hu v hv
    have A : ∀ {z : Str} {r : Row} {w : Str × Str}, w ∈ (if r.kind = ("says" : Str) then r.turns.map fun t => (z, t.1) else []) → w.1 = z := fun {z r w} hw => by
      split at hw
      · obtain ⟨t, _, rfl⟩ := List.mem_map.mp hw; rfl
      · cases hw
    have e1 := A hu
    have e2 := A hv
    simp only [ltP, e1, e2, h, Bool.true_or]
theorem ltP_nd {l : Lot} (h : l.Pairwise fun x y => ltP x y = true) : l.Nodup := by
  refine h.imp fun {x y} h e => ?_
  subst e
  rw [sto_ltP.irr] at h
  cases h
theorem said_nd {b : Book} (ok : OkBook b) : (saidP b).Nodup := by
  unfold saidP List.Nodup
  rw [List.pairwise_flatMap]
  constructor
  · intro p hp
    split
    · rw [List.pairwise_map]
      have := (ok.row p hp).nd
      unfold List.Nodup at this
      rw [List.pairwise_map] at this
      exact this.imp fun {x y} h e => h (Prod.ext_iff.mp e).2
    · exact List.Pairwise.nil
  · have := ok.nd
    unfold List.Nodup at this
    rw [List.pairwise_map] at this
    refine this.imp fun {x y} h => ?_
    intro u hu v hv e
    subst e
    have A : ∀ {z : Str} {r : Row} {w : Str × Str}, w ∈ (if r.kind = ("says" : Str) then r.turns.map fun t => (z, t.1) else []) → w.1 = z := fun {z r w} hw => by
      split at hw
      · obtain ⟨t, _, rfl⟩ := List.mem_map.mp hw; rfl
      · cases hw
    exact h ((A hu).symm.trans (A hv))
theorem said_ord {b : Book} (ok : OkBook b) : saidP (ordB b) = sortP (saidP b) := by
  refine srt_eq sto_ltP ?_ ?_
  · refine (List.perm_ext_iff_of_nodup (ltP_nd (ltP_said ok)) (said_nd ok)).mpr fun p => ?_
    rw [said_mem, said_mem]
    constructor
    · rintro ⟨r, t, h1, h2, h3, h4⟩
      obtain ⟨r2, h5, e⟩ := (ordB_mem ok.nd).mp h1
      simp only at h5 e
      rw [e] at h2 h3
      exact ⟨r2, t, h5, h2, (ordT_mem (ok.row _ h5).nd).mp h3, h4⟩
    · rintro ⟨r, t, h1, h2, h3, h4⟩
      exact ⟨ordR r, t, (ordB_mem ok.nd).mpr ⟨r, h1, rfl⟩, h2, (ordT_mem (ok.row _ h1).nd).mpr h3, h4⟩
  · refine (ltP_said ok).imp fun {x y} h => ?_
    cases e : ltP y x with
    | false => rfl
    | true =>
      have := sto_ltP.tr x y x h e
      rw [sto_ltP.irr] at this
      cases this
theorem said_ord_len {b : Book} (ok : OkBook b) : (saidP (ordB b)).length = (saidP b).length := by
  rw [said_ord ok]; exact (srt_perm _ _).length_eq
theorem least_srt (ls : List Lot) : leastP (srt (lexL ltP) ls) = srt (lexL ltP) (leastP ls) := by
  unfold leastP
  have : (fun x => !((srt (lexL ltP) ls).any fun y => liesB y x)) = fun x => !(ls.any fun y => liesB y x) := funext fun x => by
    congr 1
    rw [Bool.eq_iff_iff, List.any_eq_true, List.any_eq_true]
    exact ⟨fun ⟨y, h1, h2⟩ => ⟨y, (srt_perm _ _).mem_iff.mp h1, h2⟩, fun ⟨y, h1, h2⟩ => ⟨y, (srt_perm _ _).mem_iff.mpr h1, h2⟩⟩
  rw [this]
  exact srt_filter (sto_lexL sto_ltP) _ _
/-- what is due -/
noncomputable def dueP (w : Wd) : List Lot := srt (lexL ltP) (leastP ((lotsP (sortP (saidP w.book))).filter fun l => goodB w.book w.first l))
theorem good_ord {b : Book} (ok : OkBook b) (f : Str) (l : Lot) : (leftB (ordB b) l && viabB (ordB (woB (ordB b) l)) f) = goodB b f l := by
  unfold goodB
  rw [left_ord ok]
  cases h : leftB b l with
  | false => rfl
  | true => rw [ordB_wo ok, viabB_ord (ok_wo ok h)]
theorem due_eq {w : Wd} (ok : OkW w) : leastP ((srt (lexL ltP) (lotsP (saidP (ordB w.book)))).filter fun l => leftB (ordB w.book) l && viabB (ordB (woB (ordB w.book) l)) w.first) = dueP w := by
  have : (fun l => leftB (ordB w.book) l && viabB (ordB (woB (ordB w.book) l)) w.first) = fun l => goodB w.book w.first l := funext fun l => good_ord ok.book w.first l
  rw [this, srt_filter (sto_lexL sto_ltP), least_srt, said_ord ok.book]
  rfl
theorem due_mem {w : Wd} (ok : OkW w) {l : Lot} : l ∈ dueP w ↔ l.Sublist (saidP (ordB w.book)) ∧ goodB w.book w.first l = true ∧ ∀ m : Lot, m.Sublist (saidP (ordB w.book)) → goodB w.book w.first m = true → m ≠ l → ¬ ∀ p ∈ m, p ∈ l := by
  unfold dueP leastP
  rw [(srt_perm _ _).mem_iff, List.mem_filter, List.mem_filter, lots_mem, said_ord ok.book]
  constructor
  · rintro ⟨⟨h1, h2⟩, h3⟩
    refine ⟨h1, h2, fun m hm hg hne hall => ?_⟩
    have : (List.filter (fun l => goodB w.book w.first l) (lotsP (sortP (saidP w.book)))).any (fun y => liesB y l) = true := by
      refine List.any_eq_true.mpr ⟨m, List.mem_filter.mpr ⟨(lots_mem _ _).mpr hm, hg⟩, ?_⟩
      unfold liesB
      rw [decide_eq_false hne, List.all_eq_true.mpr fun p hp => decide_eq_true (hall p hp)]
      rfl
    rw [this] at h3
    cases h3
  · rintro ⟨h1, h2, h3⟩
    refine ⟨⟨h1, h2⟩, ?_⟩
    cases e : (List.filter (fun l => goodB w.book w.first l) (lotsP (sortP (saidP w.book)))).any (fun y => liesB y l) with
    | false => rfl
    | true =>
      obtain ⟨m, hm, hl⟩ := List.any_eq_true.mp e
      obtain ⟨h4, h5⟩ := List.mem_filter.mp hm
      unfold liesB at hl
      rw [Bool.and_eq_true] at hl
      refine absurd (fun p hp => of_decide_eq_true (List.all_eq_true.mp hl.2 p hp)) (h3 m ((lots_mem _ _).mp h4) h5 fun e => ?_)
      rw [decide_eq_true e] at hl
      cases hl.1
theorem due_ok {w : Wd} (ok : OkW w) {l : Lot} (h : l ∈ dueP w) : LotOk (ordB w.book) l ∧ viabB (woB w.book l) w.first = true := by
  obtain ⟨h1, h2, _⟩ := (due_mem ok).mp h
  unfold goodB at h2
  rw [Bool.and_eq_true] at h2
  exact ⟨⟨(ltP_said ok.book).sublist h1, fun p hp => h1.subset hp, by rw [left_ord ok.book]; exact h2.1⟩, h2.2⟩
theorem due_but {w : Wd} (ok : OkW w) {l : Lot} (h : l ∈ dueP w) {p : Str × Str} (hp : p ∈ l) : LotOk (ordB w.book) (l.filter fun q => decide (q ≠ p)) ∧ viabB (woB w.book (l.filter fun q => decide (q ≠ p))) w.first = false := by
  obtain ⟨h1, h2, h3⟩ := (due_mem ok).mp h
  have o := (due_ok ok h).1
  have sub : ∀ q ∈ l.filter (fun q => decide (q ≠ p)), q ∈ l := fun q hq => (List.mem_filter.mp hq).1
  have hl : leftB w.book (l.filter fun q => decide (q ≠ p)) = true := by
    have := o.left
    rw [left_ord ok.book] at this
    exact left_mono this sub
  refine ⟨⟨o.asc.sublist List.filter_sublist, fun q hq => o.sub q (sub q hq), by rw [left_ord ok.book]; exact hl⟩, ?_⟩
  cases e : viabB (woB w.book (l.filter fun q => decide (q ≠ p))) w.first with
  | false => rfl
  | true =>
    refine absurd sub (h3 _ (List.Sublist.trans List.filter_sublist h1) (by unfold goodB; rw [hl, e]; rfl) fun e2 => ?_)
    rw [← e2] at hp
    exact of_decide_eq_true (List.mem_filter.mp hp).2 rfl
theorem lots_nd : ∀ l : Lot, l.Nodup → (lotsP l).Nodup := snoc_ind (fun _ => by simp [lotsP]) fun l p ih nd => by
  rw [List.nodup_append] at nd
  rw [lots_snoc, List.nodup_append]
  refine ⟨ih nd.1, ?_, ?_⟩
  · have h := ih nd.1
    unfold List.Nodup at h ⊢
    rw [List.pairwise_map]
    exact h.imp fun {x y} h e => h (List.append_cancel_right e)
  · intro x hx y hy e
    obtain ⟨z, hz, rfl⟩ := List.mem_map.mp hy
    subst e
    have := ((lots_mem l _).mp hx).subset (show p ∈ z ++ [p] by simp)
    exact nd.2.2 p this p (by simp) rfl
theorem due_nd {w : Wd} (ok : OkW w) : (dueP w).Nodup := by
  unfold dueP leastP
  refine (srt_perm _ _).nodup_iff.mpr ?_
  refine List.Nodup.sublist List.filter_sublist (List.Nodup.sublist List.filter_sublist (lots_nd _ ?_))
  exact (srt_perm _ _).nodup_iff.mpr (said_nd ok.book)
theorem wo_nil (b : Book) : woB b [] = b := by
  unfold woB woR
  have : ∀ p : Str × Row, (p.1, Row.mk p.2.kind (p.2.turns.filter fun t => decide ((p.1, t.1) ∉ ([] : Lot)))) = p := fun p => by
    have : (p.2.turns.filter fun t => decide ((p.1, t.1) ∉ ([] : Lot))) = p.2.turns := List.filter_eq_self.mpr fun t _ => by simp
    rw [this]
  exact (List.map_congr_left fun p _ => this p).trans (List.map_id _)
theorem good_nil (b : Book) (f : Str) : goodB b f [] = viabB b f := by
  unfold goodB
  rw [wo_nil, left_iff.mpr fun p hp hn => by
    obtain ⟨t, ht⟩ := List.exists_mem_of_ne_nil _ hn
    exact ⟨t, ht, by simp⟩, Bool.true_and]
theorem due_nil {w : Wd} (ok : OkW w) : decide (dueP w = [[]]) = viabB (ordB w.book) w.first := by
  rw [viabB_ord ok.book, ← good_nil]
  cases hg : goodB w.book w.first [] with
  | true =>
    refine decide_eq_true ?_
    have h0 : [] ∈ dueP w := (due_mem ok).mpr ⟨List.nil_sublist _, hg, fun m _ _ hne h => hne (List.eq_nil_iff_forall_not_mem.mpr fun p hp => by simpa using h p hp)⟩
    have h1 : ∀ l ∈ dueP w, l = [] := fun l hl => Classical.byContradiction fun hn => ((due_mem ok).mp hl).2.2 [] (List.nil_sublist _) hg (fun e => hn e.symm) fun p hp => by cases hp
    have nd := due_nd ok
    cases hd : dueP w with
    | nil => rw [hd] at h0; cases h0
    | cons x xs =>
      rw [hd] at h1 nd
      have hx := h1 x (by simp)
      subst hx
      cases xs with
      | nil => rfl
      | cons y ys =>
        have hy := h1 y (by simp)
        subst hy
        rw [List.nodup_cons] at nd
        exact absurd (by simp) nd.1
  | false =>
    refine decide_eq_false fun e => ?_
    have : [] ∈ dueP w := by rw [e]; simp
    have := ((due_mem ok).mp this).2.1
    rw [hg] at this
    cases this
end DL
/-! ## KS16 -/
namespace DL
open PySem PySem.Spec PyProof.Rows L2
local macro_rules | `(tactic| walk_at "d") => `(tactic| simp only [rSeq, rSet, rRet, rIfS, rFor, rDrop, rNext, rDead, rBrk, rCont, rPur, rPurSet, rVar, rC, rBin, rCh, rAndV, rOrV, rNotV, rAnd, rOr, rNot, rIf, rT, rCB, rCons, rNil, rCall, rIsi, rIsi2, rIsiC, rSl, rNo, rPt, rNeg, rRev, rTup, rLst, rLstH, rDctH, rDct0, rDisp, rDispH, rP0, rP1, rPar, rPar3, rUnp, rAsg, rAug, iIt, iRng, iRng2, iItems, iVals, iZip, gNm, rMut, rPut, rFrz, rLC, rSetLc, rDc, rDcH, rDC, rYes, rStar, rMeth0, rMake, rFldSet, rEqO, rTur, rJoin, rBits, rIndexD, rList_values, rList_items, rFld, rLC2, rIn, wipeR, br_t, br_f, rho0, ends, endsI, q_sel, q_isB, q_isPur, q_isI, q_strD, q_lstD, q_dkD, q_dkS, q_argS0, q_argSc, q_argSp, q_coldS, q_onS, q_noTy_non, q_noTy_bl, q_noTy_int, q_noTy_str, q_noTy_lst, q_noTy_tup, q_noTy_dk, q_noTy_obj, q_addI, q_addS, q_addL, q_addT, q_intD, q_ltI, q_ltS, q_g1, q_g2, q_lenL, q_lenT, q_lenK, q_lenS, q_intOf, q_listL, q_listT, q_listK, q_listS, q_iterL, q_iterT, q_iterK, q_iterS, q_ixL, q_ixT, q_ixS, q_ixK, q_slS, q_slL, q_inL, q_inK, q_inS, q_inV, q_ninV, q_eqD, q_neD, q_rdC, q_rdH, q_hotL, q_hotK, q_setM0, q_setM1, q_nth0, q_nthS, q_colds0, q_colds1, q_keyI, q_keyS, q_app, q_ins, q_gTp, q_gLs, q_gCs, q_gNl, q_frz0, q_frz1, q_thN, q_thC, q_thP, q_thH, q_putS, q_objS, q_fld, q_objP, q_zipL, q_zipT, q_all, q_any, q_kit_NoneType_bool, q_kit_NoneType_int, q_kit_NoneType_str, q_kit_NoneType_list, q_kit_NoneType_tuple, q_kit_NoneType_dict, q_kit_bool_bool, q_kit_bool_int, q_kit_bool_str, q_kit_bool_list, q_kit_bool_tuple, q_kit_bool_dict, q_kit_int_bool, q_kit_int_int, q_kit_int_str, q_kit_int_list, q_kit_int_tuple, q_kit_int_dict, q_kit_str_bool, q_kit_str_int, q_kit_str_str, q_kit_str_list, q_kit_str_tuple, q_kit_str_dict, q_kit_list_bool, q_kit_list_int, q_kit_list_str, q_kit_list_list, q_kit_list_tuple, q_kit_list_dict, q_kit_tuple_bool, q_kit_tuple_int, q_kit_tuple_str, q_kit_tuple_list, q_kit_tuple_tuple, q_kit_tuple_dict, q_kit_dict_bool, q_kit_dict_int, q_kit_dict_str, q_kit_dict_list, q_kit_dict_tuple, q_kit_dict_dict, List.map_cons, List.map_nil, List.length_cons, List.length_nil, List.append_nil, List.cons_append, List.nil_append, List.set_cons_zero, List.set_cons_succ, List.replicate_succ, List.replicate_zero, Nat.reduceSub, Nat.reduceAdd, tyN, List.getD_cons_zero, List.getD_cons_succ, if_true, if_false, true_and, and_true, Nat.zero_add, List.set_nil, Bool.not_true, Bool.not_false])
/-! ### the law's rounds -/
theorem getD_end {pre : List D} {y d : D} : (pre ++ [y]).getD pre.length d = y := by simp
theorem rd_end {pre : List D} {y : D} {n : Nat} : Mu.rd ⟨pre ++ [y], n⟩ (.hot pre.length) = y := getD_end
theorem set_end {pre : List D} {y d : D} : (pre ++ [y]).set pre.length d = pre ++ [d] := by simp
abbrev eNr (ks : List Str) : List (Key × D) := eT D.bl (ks.map fun k => (k, true))
theorem nr_keys (ks : List Str) : (ks.map fun k => (k, true)).map (·.1) = ks := by
  rw [List.map_map]; exact List.map_id _
theorem in_nr {z : Str} {ks : List Str} {k : Bool → Prop} (h : k (decide (z ∈ ks))) : inD (.str z) (.dk (eNr ks)) k := by
  rw [q_inK, hasK_e, nr_keys]; exact h
theorem len_nr {ks : List Str} : (eNr ks).length = ks.length := by simp [eT]
def candB (b : Book) (kept near : List Str) (s : Str) : Bool := decide ((getT b s).kind = ("done" : Str)) || nearB b kept near s
theorem viable_pass (a : Addr) {w : Wd} {kept near : List Str} {pre : List D} {n : Nat} {mn : Int} {x2 x5 x6 x7 x8 x9 : Option S} {N : EndsD} (ok : OkW w) (nd : kept.Nodup) (hin : ∀ s ∈ kept, s ∈ w.book.map (·.1)) (h1 : near.Nodup) (h2 : ∀ s ∈ near, s ∈ kept) (h3 : ∀ s ∈ near, Reach w.book (· ∈ kept) s)
    (q : ∀ near' x5 x6 x7 x8 x9, near'.Nodup → (∀ s ∈ near', s ∈ kept) → (∀ s ∈ near', Reach w.book (· ∈ kept) s) → near.length ≤ near'.length → (near'.length = near.length → near' = near ∧ ∀ z ∈ kept, z ∉ near → candB w.book kept near z = false) →
      N.nx [some (.c (eWorld w)), some (.c (.dk (eNr kept))), x2, some (.hot pre.length), some (.c (.int near.length)), x5, x6, x7, x8, x9, none, none] ⟨pre ++ [.dk (eNr near')], n⟩) :
    t_l_viable_1_b_1_b a N [some (.c (eWorld w)), some (.c (.dk (eNr kept))), x2, some (.hot pre.length), some (.c (.int mn)), x5, x6, x7, x8, x9, none, none] ⟨pre ++ [.dk (eNr near)], n⟩ := by
  unfold t_l_viable_1_b_1_b
  walk_at "d"
  rw [getD_end, q_lenK, len_nr]
  unfold t_l_viable_1_b_1_b_1
  walk_at "d"
  have hl : kept.length ≤ 6 := by
    have h1 := nodup_le nd hin
    have := ok.book.len
    simp at h1; omega
  rw [keys_e, nr_keys]
  refine ⟨by rw [List.length_map]; show _ ≤ 16777216; omega, ?_⟩
  refine runC_strs (p := fun z => decide (z ∉ near)) kept (fun z hz K hK => ?_) ?_
  · rw [rd_end]
    refine in_nr ?_
    by_cases h : z ∈ near
    · rw [decide_eq_true h]
      rw [decide_eq_false (not_not_intro h)] at hK
      exact br_f.mpr hK
    · rw [decide_eq_false h]
      rw [decide_eq_true h] at hK
      exact br_t.mpr hK
  have hfm : ∀ z, z ∈ kept.filter (fun z => decide (z ∉ near)) ↔ z ∈ kept ∧ z ∉ near := fun z => by rw [List.mem_filter, decide_eq_true_eq]
  have hfn : (kept.filter fun z => decide (z ∉ near)).Nodup := nd.sublist List.filter_sublist
  generalize kept.filter (fun z => decide (z ∉ near)) = fr at hfm hfn
  refine runF_of D.str fr (fun dn ρ μ => ∃ near' x5 x6 x7 x8 x9, ρ = [some (S.c (eWorld w)), some (S.c (.dk (eNr kept))), x2, some (.hot pre.length), some (.c (.int near.length)), x5, x6, x7, x8, x9, none, none] ∧ μ = ⟨pre ++ [.dk (eNr near')], n⟩ ∧
    near'.Nodup ∧ (∀ s ∈ near', s ∈ kept) ∧ (∀ s ∈ near', Reach w.book (· ∈ kept) s) ∧ (∀ s ∈ near', s ∈ near ∨ s ∈ dn) ∧ near.length ≤ near'.length ∧ (near'.length = near.length → near' = near ∧ ∀ z ∈ dn, candB w.book kept near z = false))
    ⟨near, x5, x6, x7, x8, x9, rfl, rfl, h1, h2, h3, fun s hs => .inl hs, Nat.le_refl _, fun _ => ⟨rfl, fun z hz => by cases hz⟩⟩ ?_ ?_
  · rintro dn z zs ρ μ k e ⟨near', x5, x6, x7, x8, x9, rfl, rfl, i1, i2, i3, i4, i5, i6⟩ hk
    have hzf : z ∈ fr := by rw [e]; simp
    obtain ⟨hzk, hzn⟩ := (hfm z).mp hzf
    have hzb := hin z hzk
    have hrow := (getT_mem hzb).1
    have o : OkRow _ (getT w.book z) := ok.book.row _ hrow
    have tl : (getT w.book z).turns.length ≤ 6 := o.len
    have hz' : z ∉ near' := fun h => by
      rcases i4 z h with h | h
      · exact hzn h
      · rw [e, List.nodup_append] at hfn
        exact hfn.2.2 z h z (by simp) rfl
    have yes : candB w.book kept near' z = true → ∀ x5 x6 x7 x8 x9, k [some (S.c (eWorld w)), some (S.c (.dk (eNr kept))), x2, some (.hot pre.length), some (.c (.int near.length)), x5, x6, x7, x8, x9, none, none] ⟨pre ++ [.dk (eNr (near' ++ [z]))], n⟩ := fun h x5 x6 x7 x8 x9 => by
      have hr : Reach w.book (· ∈ kept) z := by
        unfold candB at h
        rw [Bool.or_eq_true] at h
        rcases h with h | h
        · exact .done hrow hzk (of_decide_eq_true h)
        · obtain ⟨⟨t, ht, htk⟩, hk⟩ := near_iff.mp h
          exact .step hrow hzk ht (i3 _ htk) hk
      refine hk _ _ ⟨near' ++ [z], x5, x6, x7, x8, x9, rfl, rfl, ?_, ?_, ?_, ?_, ?_, ?_⟩
      · rw [List.nodup_append]
        exact ⟨i1, by simp, fun u hu v hv e => hz' (by rw [List.mem_singleton.mp hv] at e; exact e ▸ hu)⟩
      · exact fun s hs => (List.mem_append.mp hs).elim (i2 s) fun h => List.mem_singleton.mp h ▸ hzk
      · exact fun s hs => (List.mem_append.mp hs).elim (i3 s) fun h => List.mem_singleton.mp h ▸ hr
      · exact fun s hs => (List.mem_append.mp hs).elim (fun h => (i4 s h).imp id fun h => List.mem_append_left _ h) fun h => .inr (List.mem_append_right _ h)
      · rw [List.length_append]; omega
      · intro hh
        rw [List.length_append, List.length_singleton] at hh
        omega
    have no : candB w.book kept near' z = false → ∀ x5 x6 x7 x8 x9, k [some (S.c (eWorld w)), some (S.c (.dk (eNr kept))), x2, some (.hot pre.length), some (.c (.int near.length)), x5, x6, x7, x8, x9, none, none] ⟨pre ++ [.dk (eNr near')], n⟩ := fun h x5 x6 x7 x8 x9 => by
      refine hk _ _ ⟨near', x5, x6, x7, x8, x9, rfl, rfl, i1, i2, i3, fun s hs => (i4 s hs).imp id fun h => List.mem_append_left _ h, i5, fun hh => ?_⟩
      obtain ⟨g1, g2⟩ := i6 hh
      subst g1
      exact ⟨rfl, fun u hu => (List.mem_append.mp hu).elim (g2 u) fun h2 => List.mem_singleton.mp h2 ▸ h⟩
    unfold t_l_viable_1_b_1_b_1_b
    walk_at "d"
    rw [ix_w0, ix_book hzb]
    refine gtp_row ?_
    unfold t_l_viable_1_b_1_b_1_b_1
    walk_at "d"
    rw [e_turns, q_iterK, keys_at]
    refine ⟨by rw [List.length_map]; show _ ≤ 16777216; omega, ?_⟩
    refine runC_all (fun t : Str × Str => D.str t.1) (fun t => D.str t.2) _ (fun t ht K hK => ?_) ?_
    · walk_at "d"
      rw [getK_e (f := D.str) (List.mem_map_of_mem ht), find_getT o.nd ht, q_onS]
      exact hK
    unfold t_l_viable_1_b_1_b_1_b_2
    walk_at "d"
    refine ⟨by rw [List.length_map]; show _ ≤ 16777216; omega, ?_⟩
    refine runC_bool (fun t : Str × Str => D.str t.2) (fun t => decide (t.2 ∈ near')) _ (fun t ht K hK => ?_) ?_
    · rw [rd_end]; exact in_nr hK
    refine ⟨_, rfl, ?_⟩
    rw [any_id]
    unfold t_l_viable_1_b_1_b_1_b_3
    walk_at "d"
    have ln : near'.length ≤ 6 := by
      have := nodup_le i1 i2
      omega
    have put : candB w.book kept near' z = true → ∀ x5 x6 x7 x8 x9, dkD (Mu.rd ⟨pre ++ [.dk (eNr near')], n⟩ (.hot pre.length)) fun ds => ds.length < lim ∧ k [some (S.c (eWorld w)), some (S.c (.dk (eNr kept))), x2, some (.hot pre.length), some (.c (.int near.length)), x5, x6, x7, x8, x9, none, none] (putS ⟨pre ++ [.dk (eNr near')], n⟩ pre.length (.dk (putD ds (.inr z) (.bl true)))) := fun h x5 x6 x7 x8 x9 => by
      rw [rd_end, q_dkD]
      refine ⟨by rw [len_nr]; show _ < 16777216; omega, ?_⟩
      have hp : putD (eNr near') (.inr z) (.bl true) = eNr (near' ++ [z]) := by
        show putD (eT D.bl (near'.map fun k => (k, true))) (.inr z) (.bl true) = _
        rw [putD_e (f := D.bl), putT_new (by rw [nr_keys]; exact hz')]
        simp [eNr]
      rw [hp, q_putS, set_end]
      exact yes h _ _ _ _ _
    refine ⟨rfl, ?_⟩
    rw [eqb_ss]
    refine br_i (fun h => ?_) fun h => br_i (fun h2 => ⟨rfl, ?_⟩) fun h2 => ?_
    · exact put (by unfold candB; rw [show decide ((getT w.book z).kind = "done") = true from h]; rfl) _ _ _ _ _
    · rw [eqb_ss]
      refine br_i (fun h3 => ?_) fun h3 => ?_
      · refine put ?_ _ _ _ _ _
        unfold candB nearB
        rw [h2, show decide ((getT w.book z).kind = "hears") = true from h3]
        simp
      refine ⟨by rw [List.length_map]; show _ ≤ 16777216; omega, ?_⟩
      refine runC_bool (fun t : Str × Str => D.str t.2) (fun t => decide (t.2 ∈ kept)) _ (fun t ht K hK => ?_) ?_
      · exact in_nr hK
      refine ⟨_, rfl, ?_⟩
      rw [all_id]
      refine br_i (fun h4 => ?_) fun h4 => ?_
      · refine put ?_ _ _ _ _ _
        unfold candB nearB
        rw [h2, h4]
        simp
      · refine no ?_ _ _ _ _ _
        unfold candB nearB
        rw [h2, h4, show decide ((getT w.book z).kind = "hears") = false from h3, show decide ((getT w.book z).kind = "done") = false from h]
        rfl
    · refine no ?_ _ _ _ _ _
      unfold candB nearB
      rw [h2, show decide ((getT w.book z).kind = "done") = false from h]
      rfl
  · rintro ρ μ ⟨near', x5, x6, x7, x8, x9, rfl, rfl, i1, i2, i3, i4, i5, i6⟩
    exact q near' x5 x6 x7 x8 x9 i1 i2 i3 i5 fun h => ⟨(i6 h).1, fun z hz hn => (i6 h).2 z ((hfm z).mpr ⟨hz, hn⟩)⟩
theorem near_full {b : Book} {kept near : List Str} (nd : (b.map (·.1)).Nodup) (h : ∀ z ∈ kept, z ∉ near → candB b kept near z = false) {s : Str} (hs : Reach b (· ∈ kept) s) : s ∈ near := by
  refine reach_sub (left := kept) nd (fun s hs hk => Classical.byContradiction fun hn => ?_) ?_ hs
  · have := h s hs hn
    unfold candB at this
    rw [decide_eq_true hk] at this
    cases this
  · refine List.eq_nil_iff_forall_not_mem.mpr fun z hz => ?_
    obtain ⟨h1, h2, h3⟩ := mem_fresh.mp hz
    have := h z h1 h2
    unfold candB at this
    rw [h3, Bool.or_true] at this
    cases this
def vwI (w : Wd) (kept : List Str) (pre : List D) (n : Nat) (x2 : Option S) (m : Nat) (ρ : Rho) (μ : Mu) : Prop := ∃ (near : List Str) (mn : Int) (x5 x6 x7 x8 x9 : Option S),
  ρ = [some (S.c (eWorld w)), some (S.c (.dk (eNr kept))), x2, some (.hot pre.length), some (.c (.int mn)), x5, x6, x7, x8, x9, none, none] ∧ μ = ⟨pre ++ [.dk (eNr near)], n⟩ ∧
    near.Nodup ∧ (∀ s ∈ near, s ∈ kept) ∧ (∀ s ∈ near, Reach w.book (· ∈ kept) s) ∧ mn ≤ near.length ∧ (mn = near.length → ∀ z ∈ kept, z ∉ near → candB w.book kept near z = false) ∧ (m : Int) = 7 - mn
theorem w_l_viable (a : Addr) : ∀ ss n kk, sp_l_viable a ss n kk → t_l_viable a (ends kk) (rho0 N_l_viable ss) ⟨[], n⟩ := by
  rintro ss n kk ⟨w, rfl, ok, q⟩
  have hl := ok.book.len
  have nd := ok.book.nd
  unfold t_l_viable
  walk_at "d"
  rw [ix_w0, e_book]
  walk_at "d"
  rw [keys_at]
  refine ⟨by rw [List.length_map]; show _ ≤ 16777216; omega, ?_⟩
  refine runC_all (fun p : Str × Row => D.str p.1) (fun p => .tup [.str p.1, .bl true]) _ (fun p hp K hK => ⟨by decide, hK⟩) ?_
  have e1 : w.book.map (fun p => D.tup [.str p.1, .bl true]) = ((w.book.map (·.1)).map fun k => (k, true)).map fun t => D.tup [.str t.1, .bl t.2] := by
    rw [List.map_map, List.map_map]; rfl
  rw [e1]
  refine dict_e (f := D.bl) (by rw [nr_keys]; exact nd) ?_
  unfold t_l_viable_1
  walk_at "d"
  rw [ix_w0, e_book]
  walk_at "d"
  have el : (eT eRow w.book).length = w.book.length := by unfold eT; rw [List.length_map]
  rw [el]
  refine ⟨by omega, by omega, ?_⟩
  have er : ((w.book.length : Int) + 1).toNat = w.book.length + 1 := by omega
  rw [er]
  refine runF_of (fun i : Nat => D.int (0 + (i : Int))) (List.range (w.book.length + 1)) (fun dn ρ μ => ∃ kept pre x2 x3 x4 x5 x6 x7 x8 x9, ρ = [some (S.c (eWorld w)), some (S.c (.dk (eNr kept))), x2, x3, x4, x5, x6, x7, x8, x9, none, none] ∧ μ = ⟨pre, n⟩ ∧
    kept.Nodup ∧ (∀ s ∈ kept, s ∈ w.book.map (·.1)) ∧ (∀ s, Viab w.book s → s ∈ kept) ∧ kept.length + dn.length ≤ w.book.length)
    ⟨w.book.map (·.1), [], _, _, _, _, _, _, _, _, rfl, rfl, nd, fun s h => h, ?_, by simp⟩ ?_ ?_
  · rintro s ⟨L, hL, hs⟩
    cases hL s hs with
    | done hb _ _ => exact List.mem_map_of_mem hb
    | step hb _ _ _ _ => exact List.mem_map_of_mem hb
  · rintro dn i zs ρ μ k e ⟨kept, pre, x2, x3, x4, x5, x6, x7, x8, x9, rfl, rfl, i1, i2, i3, i4⟩ hk
    unfold t_l_viable_1_b
    walk_at "d"
    unfold t_l_viable_1_b_1
    walk_at "d"
    refine ⟨by decide, ?_⟩
    refine while_i (vwI w kept pre n _) 8 ⟨[], -1, x5, x6, x7, x8, x9, rfl, rfl, by simp, (fun s h => by cases h), (fun s h => by cases h), by simp, fun h => by simp at h, by decide⟩ ?_
    rintro m ρ μ ⟨near, mn, x5, x6, x7, x8, x9, rfl, rfl, j1, j2, j3, j4, j5, j6⟩
    have hn := nodup_le j1 j2
    have hn2 := nodup_le i1 i2
    rw [List.length_map] at hn2
    walk_at "d"
    rw [getD_end, q_lenK, len_nr]
    walk_at "d"
    refine br_i (fun h => ?_) fun h => ?_
    · have h := of_decide_eq_true h
      refine viable_pass a ok i1 i2 j1 j2 j3 fun near' x5 x6 x7 x8 x9 g1 g2 g3 g4 g5 => ?_
      have hn3 := nodup_le g1 g2
      refine ⟨7 - near.length, by omega, near', near.length, x5, x6, x7, x8, x9, rfl, rfl, g1, g2, g3, by omega, fun hh => ?_, by omega⟩
      obtain ⟨g6, g7⟩ := g5 (by omega)
      subst g6
      exact g7
    · have h := of_decide_eq_false h
      have hc := j5 (by omega)
      unfold t_l_viable_1_b_2
      walk_at "d"
      rw [getD_end, q_lenK, len_nr]
      rw [len_nr]
      refine ⟨rfl, ?_⟩
      rw [eqb_ii]
      refine br_i (fun h2 => ?_) fun h2 => ?_
      · have h2 : near.length = kept.length := by have := of_decide_eq_true h2; omega
        have all : ∀ s ∈ kept, s ∈ near := nodup_full j1 j2 (by omega)
        refine sort_e (f := D.bl) (by rw [List.length_map]; omega) ?_
        walk_at "d"
        rw [nr_keys]
        refine q (sortS near) (by rw [sort_len]; omega) fun s => ?_
        rw [sort_mem]
        exact ⟨fun hs => ⟨(· ∈ kept), fun u hu => j3 u (all u hu), j2 s hs⟩, fun hs => all s (i3 s hs)⟩
      · have h2 : near.length ≠ kept.length := by have := of_decide_eq_false h2; omega
        unfold t_l_viable_1_b_3
        walk_at "d"
        rw [getD_end]
        refine hk _ _ ⟨near, _, _, _, _, _, _, _, _, _, rfl, rfl, j1, fun s hs => i2 s (j2 s hs), fun s hs => near_full nd hc (viab_left i3 hs), ?_⟩
        rw [List.length_append, List.length_singleton]
        omega
  · rintro ρ μ ⟨kept, pre, x2, x3, x4, x5, x6, x7, x8, x9, rfl, rfl, i1, i2, i3, i4⟩
    rw [List.length_range] at i4
    omega
theorem nis_w {w : Wd} {k : D → Prop} : nisV (eWorld w) .non k = k (.bl true) := rfl
theorem nis_n {k : D → Prop} : nisV .non .non k = k (.bl false) := rfl
theorem w_own_rescues (a : Addr) : ∀ ss n kk, sp_l_own_rescues a ss n kk → t_l_own_rescues a (ends kk) (rho0 N_l_own_rescues ss) ⟨[], n⟩ := by
  rintro ss n kk ⟨w, rfl, ok, hl, q⟩
  unfold t_l_own_rescues
  walk_at "d"
  refine ⟨by decide, by decide, ?_⟩
  unfold t_l_own_rescues_1
  walk_at "d"
  refine ⟨w, rfl, ok, ?_⟩
  have hsl : (sortP (saidP w.book)).length ≤ 6 := by rw [(srt_perm _ _).length_eq]; exact hl
  generalize hS : sortP (saidP w.book) = l at hsl
  walk_at "d"
  show runF _ (l.map eP) _ _ _
  refine runF_of eP l (fun dn ρ μ => ∃ x2, ρ = [some (S.c (eWorld w)), some (S.c (eLots (lotsP dn))), x2, none, none, none, none, none] ∧ μ = ⟨[], n⟩) ⟨_, rfl, rfl⟩ ?_ ?_
  · rintro dn p zs ρ μ k e ⟨x2, rfl, rfl⟩ hk
    have dl : dn.length < 6 := by
      have := congrArg List.length e
      simp at this; omega
    have ll : (lotsP dn).length ≤ 32 := by
      rw [lots_len]
      exact Nat.pow_le_pow_right (by decide) (by omega : dn.length ≤ 5)
    unfold t_l_own_rescues_1_b
    walk_at "d"
    refine ⟨by rw [List.length_map]; show _ ≤ 16777216; omega, ?_⟩
    refine runC_all eL (fun x => eL (x ++ [p])) (lotsP dn) (fun x hx K hK => ?_) ?_
    · have hx2 := ((lots_mem dn x).mp hx).length_le
      unfold eL
      walk_at "d"
      refine ⟨by decide, by rw [List.length_map]; show _ ≤ 16777216; omega, ?_⟩
      unfold eL at hK
      rw [List.map_append] at hK
      exact hK
    · refine ⟨?_, ?_⟩
      · simp only [List.length_map]
        show _ ≤ 16777216
        omega
      refine hk _ _ ⟨some (S.c (eP p)), ?_, rfl⟩
      rw [lots_snoc]
      simp only [eLots, List.map_append, List.map_map]
      rfl
  · rintro ρ μ ⟨x2, rfl, rfl⟩
    have ll : (lotsP l).length ≤ 64 := by
      rw [lots_len]
      exact Nat.pow_le_pow_right (by decide) hsl
    unfold t_l_own_rescues_2
    walk_at "d"
    refine ⟨by decide, ?_⟩
    unfold t_l_own_rescues_3
    walk_at "d"
    show runF _ ((lotsP l).map eL) _ _ _
    refine runF_of eL (lotsP l) (fun dn ρ μ => ∃ x4 x5, ρ = [some (S.c (eWorld w)), some (S.c (eLots (lotsP l))), x2, some (.hot 0), x4, x5, none, none] ∧ μ = ⟨[eLots (dn.filter fun x => goodB w.book w.first x)], n⟩) ⟨_, _, rfl, rfl⟩ ?_ ?_
    · rintro dn x zs ρ μ k e ⟨x4, x5, rfl, rfl⟩ hk
      unfold t_l_own_rescues_3_b
      walk_at "d"
      refine ⟨w, x, rfl, ok, ?_⟩
      unfold t_l_own_rescues_3_b_1
      cases hlf : leftB w.book x with
      | true =>
        rw [if_pos rfl]
        walk_at "d"
        rw [nis_w]
        walk_at "d"
        rw [ix_w1]
        refine ⟨⟨woB w.book x, w.first⟩, rfl, ⟨ok_wo ok.book hlf, by rw [wo_keys]; exact ok.first⟩, fun vs h1 h2 => ?_⟩
        refine in_strs ?_
        have hg : decide (w.first ∈ vs) = goodB w.book w.first x := by
          unfold goodB viabB
          classical
          rw [hlf, Bool.true_and, decide_eq_decide]
          exact h2 w.first
        rw [hg]
        refine br_i (fun h => ?_) fun h => ?_
        · have dl : (dn.filter fun x => goodB w.book w.first x).length ≤ 64 := by
            have h1 := List.length_filter_le (fun x => goodB w.book w.first x) dn
            have h2 := congrArg List.length e
            rw [List.length_append] at h2
            omega
          refine ⟨by rw [List.length_map]; show _ < 16777216; omega, ?_⟩
          refine hk _ _ ⟨some (.c (eL x)), _, rfl, ?_⟩
          simp [h]
        · refine hk _ _ ⟨some (.c (eL x)), _, rfl, ?_⟩
          simp [h]
      | false =>
        rw [if_neg (by decide)]
        walk_at "d"
        rw [nis_n]
        walk_at "d"
        refine hk _ _ ⟨some (.c (eL x)), _, rfl, ?_⟩
        have : goodB w.book w.first x = false := by unfold goodB; rw [hlf]; rfl
        simp [this]
    · rintro ρ μ ⟨x4, x5, rfl, rfl⟩
      unfold t_l_own_rescues_4
      walk_at "d"
      have fl : ((lotsP l).filter fun x => goodB w.book w.first x).length ≤ 64 := Nat.le_trans (List.length_filter_le _ _) ll
      have fx : ∀ x ∈ (lotsP l).filter fun x => goodB w.book w.first x, x.length ≤ 6 := fun x hx => by
        have := ((lots_mem _ _).mp (List.mem_filter.mp hx).1).length_le
        omega
      rw [hS] at q
      generalize (lotsP l).filter (fun x => goodB w.book w.first x) = ls at fl fx q
      refine ⟨by rw [List.length_map]; show _ ≤ 16777216; omega, ?_⟩
      refine runC_of eL (fun x => !(ls.any fun y => liesB y x)) eL ls [] (fun x hx K hK => ?_) ?_
      · refine ⟨by rw [List.length_map]; show _ ≤ 16777216; omega, ?_⟩
        refine runC_bool eL (fun y => liesB y x) ls (fun y hy K hK => ?_) ?_
        · refine ⟨ne_lots y x, ?_⟩
          rw [show eqb (eL y) (eL x) = decide (y = x) from eqb_lots y x]
          unfold liesB at hK
          have hy6 := fx y hy
          refine br_i (fun h => ?_) fun h => ?_
          · rw [h, Bool.true_and] at hK
            show iterD (.lst (y.map eP)) _
            rw [q_iterL]
            refine ⟨by rw [List.length_map]; show _ ≤ 16777216; omega, ?_⟩
            refine runC_bool eP (fun p => decide (p ∈ x)) y (fun p hp K hK => in_pairs (p := p) (k := fun c => K (some (.bl c)) _) hK) ⟨_, rfl, ?_⟩
            rw [all_id]
            exact hK
          · rw [h, Bool.false_and] at hK
            exact hK
        · refine ⟨_, rfl, ?_⟩
          rw [any_id]
          refine br_i (fun h => ?_) fun h => ?_
          · rw [if_pos h] at hK; exact hK
          · rw [if_neg (by rw [h]; decide)] at hK; exact hK
      · unfold t_l_own_rescues_5
        walk_at "d"
        exact .inr (.inr ⟨_, rfl, q⟩)
end DL
/-! ## KS17 -/
namespace DL
open PySem PySem.Spec PyProof.Rows L2
local macro_rules | `(tactic| walk_at "d") => `(tactic| simp only [rSeq, rSet, rRet, rIfS, rFor, rDrop, rNext, rDead, rBrk, rCont, rPur, rPurSet, rVar, rC, rBin, rCh, rAndV, rOrV, rNotV, rAnd, rOr, rNot, rIf, rT, rCB, rCons, rNil, rCall, rIsi, rIsi2, rIsiC, rSl, rNo, rPt, rNeg, rRev, rTup, rLst, rLstH, rDctH, rDct0, rDisp, rDispH, rP0, rP1, rPar, rPar3, rUnp, rAsg, rAug, iIt, iRng, iRng2, iItems, iVals, iZip, gNm, rMut, rPut, rFrz, rLC, rSetLc, rDc, rDcH, rDC, rYes, rStar, rMeth0, rMake, rFldSet, rEqO, rTur, rJoin, rBits, rIndexD, rList_values, rList_items, rFld, rLC2, rIn, wipeR, br_t, br_f, rho0, ends, endsI, q_sel, q_isB, q_isPur, q_isI, q_strD, q_lstD, q_dkD, q_dkS, q_argS0, q_argSc, q_argSp, q_coldS, q_onS, q_noTy_non, q_noTy_bl, q_noTy_int, q_noTy_str, q_noTy_lst, q_noTy_tup, q_noTy_dk, q_noTy_obj, q_addI, q_addS, q_addL, q_addT, q_intD, q_ltI, q_ltS, q_g1, q_g2, q_lenL, q_lenT, q_lenK, q_lenS, q_intOf, q_listL, q_listT, q_listK, q_listS, q_iterL, q_iterT, q_iterK, q_iterS, q_ixL, q_ixT, q_ixS, q_ixK, q_slS, q_slL, q_inL, q_inK, q_inS, q_inV, q_ninV, q_eqD, q_neD, q_rdC, q_rdH, q_hotL, q_hotK, q_setM0, q_setM1, q_nth0, q_nthS, q_colds0, q_colds1, q_keyI, q_keyS, q_app, q_ins, q_gTp, q_gLs, q_gCs, q_gNl, q_frz0, q_frz1, q_thN, q_thC, q_thP, q_thH, q_putS, q_objS, q_fld, q_objP, q_zipL, q_zipT, q_all, q_any, q_kit_NoneType_bool, q_kit_NoneType_int, q_kit_NoneType_str, q_kit_NoneType_list, q_kit_NoneType_tuple, q_kit_NoneType_dict, q_kit_bool_bool, q_kit_bool_int, q_kit_bool_str, q_kit_bool_list, q_kit_bool_tuple, q_kit_bool_dict, q_kit_int_bool, q_kit_int_int, q_kit_int_str, q_kit_int_list, q_kit_int_tuple, q_kit_int_dict, q_kit_str_bool, q_kit_str_int, q_kit_str_str, q_kit_str_list, q_kit_str_tuple, q_kit_str_dict, q_kit_list_bool, q_kit_list_int, q_kit_list_str, q_kit_list_list, q_kit_list_tuple, q_kit_list_dict, q_kit_tuple_bool, q_kit_tuple_int, q_kit_tuple_str, q_kit_tuple_list, q_kit_tuple_tuple, q_kit_tuple_dict, q_kit_dict_bool, q_kit_dict_int, q_kit_dict_str, q_kit_dict_list, q_kit_dict_tuple, q_kit_dict_dict, List.map_cons, List.map_nil, List.length_cons, List.length_nil, List.append_nil, List.cons_append, List.nil_append, List.set_cons_zero, List.set_cons_succ, List.replicate_succ, List.replicate_zero, Nat.reduceSub, Nat.reduceAdd, tyN, List.getD_cons_zero, List.getD_cons_succ, if_true, if_false, true_and, and_true, Nat.zero_add, List.set_nil, Bool.not_true, Bool.not_false])
/-! ### turned about, exact, stays -/
theorem w_turned_book (a : Addr) : ∀ ss n kk, sp_l_turned_book a ss n kk → t_l_turned_book a (ends kk) (rho0 N_l_turned_book ss) ⟨[], n⟩ := by
  rintro ss n kk ⟨w, rfl, ok, q⟩
  have hl := ok.book.len
  unfold t_l_turned_book
  walk_at "d"
  rw [ix_w0, e_book]
  walk_at "d"
  rw [keys_at, ← List.map_reverse]
  refine ⟨by rw [List.length_map, List.length_reverse]; show _ ≤ 16777216; omega, ?_⟩
  refine runC_all (fun p : Str × Row => D.str p.1) (fun p => .tup [.str p.1, eRow (revR p.2)]) _ (fun p hp K hK => ?_) ?_
  · have hp := List.mem_reverse.mp hp
    have hpk : p.1 ∈ w.book.map (·.1) := List.mem_map_of_mem hp
    have hr := find_getT ok.book.nd hp
    have o := ok.book.row p hp
    rw [ix_w0, ix_book hpk, hr, ix_row0, ix_w0, ix_book hpk, hr, ix_row1, e_turns]
    walk_at "d"
    rw [items_turns, ← List.map_reverse]
    refine dict_e (f := D.str) ?_ ⟨by decide, by decide, hK⟩
    rw [List.map_reverse]
    exact (List.reverse_perm _).nodup_iff.mpr o.nd
  · have e1 : w.book.reverse.map (fun p => D.tup [.str p.1, eRow (revR p.2)]) = (revB w.book).map fun t => D.tup [.str t.1, eRow t.2] := by
      unfold revB
      rw [List.map_map]
      rfl
    rw [e1]
    have okr := ok_revB ok.book
    refine dict_e (f := eRow) okr.nd ?_
    rw [ix_w1]
    refine ⟨revB w.book, w.first, rfl, okr, ?_, ?_⟩
    · rw [revB_keys]; exact List.mem_reverse.mpr ok.first
    · rw [ordB_rev ok.book]; exact q
theorem zip_self {α : Type} : ∀ xs : List α, xs.zip xs = xs.map fun x => (x, x)
  | [] => rfl
  | x :: xs => by rw [List.zip_cons_cons, zip_self xs]; rfl
theorem ex_mem : ∀ {ds : List D}, exOks ds = true → ∀ d ∈ ds, exOk d = true
  | [], _, d, h => by cases h
  | x :: ds, e, d, h => by
    simp only [exOks, Bool.and_eq_true] at e
    rcases List.mem_cons.mp h with rfl | h
    · exact e.1
    · exact ex_mem e.2 d h
theorem mz_mem : ∀ {ds : List D} {d : D}, d ∈ ds → mzD d ≤ mzs ds
  | [], _, h => by cases h
  | x :: ds, d, h => by
    simp only [mzs]
    rcases List.mem_cons.mp h with rfl | h
    · omega
    · have := mz_mem h; omega
theorem exk_mem : ∀ {ds : List (Key × D)}, exOkk ds = true → ∀ p ∈ ds, exOk p.2 = true ∧ ∃ z, p.1 = .inr z
  | [], _, d, h => by cases h
  | (.inr z, x) :: ds, e, p, h => by
    simp only [exOkk, Bool.and_eq_true] at e
    rcases List.mem_cons.mp h with rfl | h
    · exact ⟨e.1, z, rfl⟩
    · exact exk_mem e.2 p h
  | (.inl z, x) :: ds, e, p, h => by simp [exOkk] at e
theorem mzk_mem : ∀ {ds : List (Key × D)} {p : Key × D}, p ∈ ds → mzD p.2 ≤ mzk ds
  | [], _, h => by cases h
  | (k, x) :: ds, d, h => by
    simp only [mzk]
    rcases List.mem_cons.mp h with rfl | h
    · simp only; omega
    · have := mzk_mem h; omega
theorem exs_keys : ∀ {ds : List (Key × D)}, exOkk ds = true → exOks (ds.map fun p => kD p.1) = true ∧ mzs (ds.map fun p => kD p.1) = 0
  | [], _ => by simp [exOks, mzs]
  | (.inr z, x) :: ds, e => by
    simp only [exOkk, Bool.and_eq_true] at e
    have := exs_keys e.2
    rw [List.map_cons]
    refine ⟨?_, ?_⟩
    · show (exOk (.str z) && exOks _) = true
      rw [this.1]
      simp [exOk]
    · show max (mzD (.str z)) (mzs _) = 0
      rw [this.2]
      simp [mzD]
  | (.inl z, x) :: ds, e => by simp [exOkk] at e
theorem eqb_bl (b : Bool) : eqb (.bl b) (.bl b) = true := by simp [eqb]
theorem cmp_bl (b : Bool) : cmpOk (.bl b) (.bl b) = true := by cases b <;> rfl
theorem eqb_in (b : Int) : eqb (.int b) (.int b) = true := by simp [eqb]
theorem cmp_in (b : Int) : cmpOk (.int b) (.int b) = true := (cmp_refl (d := .int b) rfl (by simp [dep])).1
theorem zip_tup (ds : List D) : (ds.zip ds).map (fun p => D.tup [p.1, p.2]) = ds.map fun x => D.tup [x, x] := by
  rw [zip_self, List.map_map]; rfl
theorem w_exact_list {E : Spec} {a : Addr} {ds : List D} {m n : Nat} {kk : D → Nat → Prop} {d : D} (hd : d = .lst ds ∨ d = .tup ds) (hE : ∀ ss n kk, spX m ss n kk → E ss n kk) (h1 : exOks ds = true) (h2 : ds.length ≤ 100) (h3 : mzs ds ≤ m) (q : kk (.bl true) n) :
    t_l_exact E a (ends kk) (rho0 N_l_exact [.c d, .c d]) ⟨[], n⟩ := by
  have hl : (ds.map fun x => D.tup [x, x]).length ≤ lim := by rw [List.length_map]; show _ ≤ 16777216; omega
  unfold t_l_exact
  rcases hd with rfl | rfl
  · walk_at "d"
    simp only [eqb_bl, cmp_bl, eqb_in, cmp_in, br_t, true_and, Bool.or_false, zip_tup]
    refine ⟨hl, runC_bool (fun x => D.tup [x, x]) (fun _ => true) ds (fun x hx K hK => ?_) ⟨_, rfl, ?_⟩⟩
    · walk_at "d"
      exact hE _ _ _ ⟨x, rfl, ex_mem h1 x hx, Nat.le_trans (mz_mem hx) h3, hK⟩
    · rw [all_id, List.all_eq_true.mpr fun _ _ => rfl]
      exact q
  · walk_at "d"
    simp only [eqb_bl, cmp_bl, eqb_in, cmp_in, br_t, true_and, Bool.or_true, zip_tup]
    refine ⟨hl, runC_bool (fun x => D.tup [x, x]) (fun _ => true) ds (fun x hx K hK => ?_) ⟨_, rfl, ?_⟩⟩
    · walk_at "d"
      exact hE _ _ _ ⟨x, rfl, ex_mem h1 x hx, Nat.le_trans (mz_mem hx) h3, hK⟩
    · rw [all_id, List.all_eq_true.mpr fun _ _ => rfl]
      exact q
theorem get_mem {ds : List (Key × D)} {p : Key × D} (h : p ∈ ds) : ∃ q ∈ ds, getK ds p.1 = some q.2 := by
  unfold getK
  cases e : ds.find? fun q => decide (q.1 = p.1) with
  | none =>
    have := List.find?_eq_none.mp e p h
    simp at this
  | some q => exact ⟨q, List.mem_of_find?_eq_some e, rfl⟩
theorem w_exact {E : Spec} (a : Addr) (m : Nat) (hE : ∀ ss n kk, 0 < m → spX (m - 1) ss n kk → E ss n kk) : ∀ ss n kk, spX m ss n kk → t_l_exact E a (ends kk) (rho0 N_l_exact ss) ⟨[], n⟩ := by
  rintro ss n kk ⟨d, rfl, h1, h2, q⟩
  cases d with
  | lst ds =>
    simp only [exOk, Bool.and_eq_true, decide_eq_true_eq] at h1
    simp only [mzD] at h2
    exact w_exact_list (.inl rfl) (fun ss n kk => hE ss n kk (by omega)) h1.1 h1.2 (by omega) q
  | tup ds =>
    simp only [exOk, Bool.and_eq_true, decide_eq_true_eq] at h1
    simp only [mzD] at h2
    exact w_exact_list (.inr rfl) (fun ss n kk => hE ss n kk (by omega)) h1.1 h1.2 (by omega) q
  | dk ds =>
    simp only [exOk, Bool.and_eq_true, decide_eq_true_eq] at h1
    simp only [mzD] at h2
    have hk := exs_keys h1.1
    unfold t_l_exact
    walk_at "d"
    simp only [Bool.or_self, br_f]
    unfold t_l_exact_1
    walk_at "d"
    refine hE _ _ _ (by omega) ⟨.lst (ds.map fun p => kD p.1), rfl, ?_, ?_, ?_⟩
    · simp only [exOk, hk.1, Bool.true_and, decide_eq_true_eq, List.length_map]
      exact h1.2
    · simp only [mzD, hk.2]
      omega
    walk_at "d"
    refine ⟨by rw [List.length_map]; show _ ≤ 16777216; omega, ?_⟩
    refine runC_bool (fun p : Key × D => kD p.1) (fun _ => true) ds (fun p hp K hK => ?_) ⟨_, rfl, ?_⟩
    · obtain ⟨_, z, hz⟩ := exk_mem h1.1 p hp
      obtain ⟨r, hr, hg⟩ := get_mem hp
      rw [hz] at hg ⊢
      show ixD (.dk ds) (.str z) _
      rw [q_ixK, hg, q_onS]
      show ixD (.dk ds) (.str z) _
      rw [q_ixK, hg, q_onS]
      exact hE _ _ _ (by omega) ⟨r.2, rfl, (exk_mem h1.1 r hr).1, by have := mzk_mem hr; omega, hK⟩
    · rw [all_id, List.all_eq_true.mpr fun _ _ => rfl]
      exact q
  | bl b =>
    unfold t_l_exact
    walk_at "d"
    simp only [Bool.or_self, br_f]
    unfold t_l_exact_1
    walk_at "d"
    unfold t_l_exact_2
    walk_at "d"
    simp only [eqb_bl, cmp_bl, br_t, true_and]
    exact q
  | str z =>
    unfold t_l_exact
    walk_at "d"
    simp only [Bool.or_self, br_f]
    unfold t_l_exact_1
    walk_at "d"
    unfold t_l_exact_2
    walk_at "d"
    simp only [eqb_bl, cmp_bl, br_t, true_and]
    exact ⟨rfl, by rw [eqb_self _ rfl]; exact q⟩
  | _ => simp [exOk] at h1
theorem lk_book {x y : D} : List.lookup (Str.ofString "book") [(Str.ofString "rows", x), (Str.ofString "first", y)] = none := by
  rw [List.lookup_cons, show (Str.ofString "book" == Str.ofString "rows") = false by decide +kernel, List.lookup_cons, show (Str.ofString "book" == Str.ofString "first") = false by decide +kernel]
  rfl
theorem lk_start {x y : D} : List.lookup (Str.ofString "start") [(Str.ofString "rows", x), (Str.ofString "first", y)] = none := by
  rw [List.lookup_cons, show (Str.ofString "start" == Str.ofString "rows") = false by decide +kernel, List.lookup_cons, show (Str.ofString "start" == Str.ofString "first") = false by decide +kernel]
  rfl
theorem ordR_idem {r : Row} (nd : (r.turns.map (·.1)).Nodup) : ordR (ordR r) = ordR r := by
  refine ordR_congr rfl (ordT_congr ?_ fun k hk => ?_)
  · show ((ordT r.turns).map (·.1)).Perm _
    rw [ordT_keys]; exact List.mergeSort_perm _ _
  · exact getT_perm (ordT_nd nd) nd (fun p hp => (ordT_mem nd).mp hp) hk
theorem exk_e {α : Type} {f : α → D} : ∀ t : List (Str × α), (∀ p ∈ t, exOk (f p.2) = true) → exOkk (eT f t) = true
  | [], _ => by simp [eT, exOkk]
  | p :: t, h => by
    have ih := exk_e (f := f) t fun q hq => h q (by simp [hq])
    unfold eT at ih ⊢
    simp only [List.map_cons, exOkk, Bool.and_eq_true]
    exact ⟨h p (by simp), ih⟩
theorem mzk_e {α : Type} {f : α → D} {m : Nat} : ∀ t : List (Str × α), (∀ p ∈ t, mzD (f p.2) ≤ m) → mzk (eT f t) ≤ m
  | [], _ => by simp [eT, mzk]
  | p :: t, h => by
    have ih := mzk_e (f := f) t fun q hq => h q (by simp [hq])
    have h1 := h p (by simp)
    unfold eT at ih ⊢
    simp only [List.map_cons, mzk]
    omega
theorem ex_dk {α : Type} {f : α → D} {t : List (Str × α)} (h : ∀ p ∈ t, exOk (f p.2) = true) (hl : t.length ≤ 100) : exOk (.dk (eT f t)) = true := by
  simp only [exOk, Bool.and_eq_true, decide_eq_true_eq]
  exact ⟨exk_e t h, by unfold eT; rw [List.length_map]; exact hl⟩
theorem ex_book {b : Book} (ok : OkBook b) : exOk (eBook b) = true := by
  have := ok.len
  refine ex_dk (f := eRow) (fun p hp => ?_) (by omega)
  have := (ok.row p hp).len
  have : exOk (eTurns p.2.turns) = true := ex_dk (f := D.str) (fun _ _ => rfl) (by omega)
  simp [eRow, exOk, exOks, this]
theorem mz_book {b : Book} (ok : OkBook b) : mzD (eBook b) ≤ 4 := by
  have h1 : ∀ p : Str × Row, mzD (eRow p.2) ≤ 3 := fun p => by
    have := mzk_e (f := D.str) (m := 0) p.2.turns fun _ _ => by simp [mzD]
    have h2 : mzD (eTurns p.2.turns) ≤ 2 := by
      show max 1 (mzk (eT D.str p.2.turns)) + 1 ≤ 2
      omega
    simp only [eRow, mzD, mzs]
    omega
  have := mzk_e (f := eRow) (m := 3) b fun p _ => h1 p
  show max 1 (mzk (eT eRow b)) + 1 ≤ 4
  omega
theorem w_stays (a : Addr) : ∀ ss n kk, sp_l_stays a ss n kk → t_l_stays a (ends kk) (rho0 N_l_stays ss) ⟨[], n⟩ := by
  rintro ss n kk ⟨w, rfl, ok, q⟩
  have hl := ok.book.len
  unfold t_l_stays
  walk_at "d"
  rw [ix_w0, e_book]
  refine sort_e (f := eRow) (by omega) ?_
  walk_at "d"
  refine ⟨by rw [List.length_map, sort_len, List.length_map]; show _ ≤ 16777216; omega, ?_⟩
  refine runC_all D.str (fun z => .tup [.str z, eRow (ordR (getT w.book z))]) (sortS (w.book.map (·.1))) (fun z hz K hK => ?_) ?_
  · have hz := sort_mem.mp hz
    have o : OkRow _ (getT w.book z) := ok.book.row _ (getT_mem hz).1
    rw [ix_w0, ix_book hz, ix_row0, ix_w0, ix_book hz, ix_row1, e_turns]
    refine sort_e (f := D.str) (by have := o.len; omega) ?_
    walk_at "d"
    refine ⟨by rw [List.length_map, sort_len, List.length_map]; have := o.len; show _ ≤ 16777216; omega, ?_⟩
    refine runC_all D.str (fun u => eTn (u, getT (getT w.book z).turns u)) (sortS ((getT w.book z).turns.map (·.1))) (fun u hu K hK => ?_) ?_
    · rw [ix_w0, ix_book hz, ix_row1, ix_turns (sort_mem.mp hu)]
      exact ⟨by decide, hK⟩
    · have e1 : (sortS ((getT w.book z).turns.map (·.1))).map (fun u => eTn (u, getT (getT w.book z).turns u)) = (ordT (getT w.book z).turns).map fun t => D.tup [.str t.1, .str t.2] := by
        unfold ordT
        rw [List.map_map]
        rfl
      rw [e1]
      refine dict_e (f := D.str) (ordT_nd o.nd) ?_
      exact ⟨by decide, by decide, hK⟩
  · have e2 : (sortS (w.book.map (·.1))).map (fun z => D.tup [.str z, eRow (ordR (getT w.book z))]) = (ordB w.book).map fun t => D.tup [.str t.1, eRow t.2] := by
      unfold ordB
      rw [List.map_map]
      rfl
    rw [e2]
    have oko := ok_ord ok.book
    refine dict_e (f := eRow) oko.nd ?_
    have hB : (ordB w.book).map (fun p => (p.1, ordR p.2)) = ordB w.book := by
      refine (List.map_congr_left fun p hp => ?_).trans (List.map_id _)
      obtain ⟨r, hr, e⟩ := (ordB_mem ok.book.nd).mp hp
      rw [e, ordR_idem (ok.book.row _ hr).nd, ← e]
      rfl
    unfold eDesk
    rw [q_objS, lk_book]
    refine ⟨rfl, rfl, ordB w.book, w.first, rfl, oko, ?_⟩
    show objS a (Str.ofString "start") (S.c (D.obj a [(Str.ofString "rows", eBook (ordB w.book)), (Str.ofString "first", D.str w.first)])) _
    rw [q_objS, lk_start]
    refine ⟨rfl, rfl, ordB w.book, w.first, rfl, ⟨by decide, ?_⟩⟩
    rw [ix_w1, hB]
    refine ⟨by decide, .lst [eBook (ordB w.book), .str w.first], rfl, ?_, ?_, ?_⟩
    · have := ex_book oko
      simp [exOk, exOks, this]
    · have := mz_book oko
      simp only [mzD, mzs]
      omega
    refine br_t.mpr ⟨w, rfl, ok, rfl, rfl, ⟨ordB w.book, w.first, rfl, oko, rfl⟩, q⟩
end DL
/-! ## KS18 -/
namespace DL
open PySem PySem.Spec PyProof.Rows L2
local macro_rules | `(tactic| walk_at "d") => `(tactic| simp only [rSeq, rSet, rRet, rIfS, rFor, rDrop, rNext, rDead, rBrk, rCont, rPur, rPurSet, rVar, rC, rBin, rCh, rAndV, rOrV, rNotV, rAnd, rOr, rNot, rIf, rT, rCB, rCons, rNil, rCall, rIsi, rIsi2, rIsiC, rSl, rNo, rPt, rNeg, rRev, rTup, rLst, rLstH, rDctH, rDct0, rDisp, rDispH, rP0, rP1, rPar, rPar3, rUnp, rAsg, rAug, iIt, iRng, iRng2, iItems, iVals, iZip, gNm, rMut, rPut, rFrz, rLC, rSetLc, rDc, rDcH, rDC, rYes, rStar, rMeth0, rMake, rFldSet, rEqO, rTur, rJoin, rBits, rIndexD, rList_values, rList_items, rFld, rLC2, rIn, wipeR, br_t, br_f, rho0, ends, endsI, q_sel, q_isB, q_isPur, q_isI, q_strD, q_lstD, q_dkD, q_dkS, q_argS0, q_argSc, q_argSp, q_coldS, q_onS, q_noTy_non, q_noTy_bl, q_noTy_int, q_noTy_str, q_noTy_lst, q_noTy_tup, q_noTy_dk, q_noTy_obj, q_addI, q_addS, q_addL, q_addT, q_intD, q_ltI, q_ltS, q_g1, q_g2, q_lenL, q_lenT, q_lenK, q_lenS, q_intOf, q_listL, q_listT, q_listK, q_listS, q_iterL, q_iterT, q_iterK, q_iterS, q_ixL, q_ixT, q_ixS, q_ixK, q_slS, q_slL, q_inL, q_inK, q_inS, q_inV, q_ninV, q_eqD, q_neD, q_rdC, q_rdH, q_hotL, q_hotK, q_setM0, q_setM1, q_nth0, q_nthS, q_colds0, q_colds1, q_keyI, q_keyS, q_app, q_ins, q_gTp, q_gLs, q_gCs, q_gNl, q_frz0, q_frz1, q_thN, q_thC, q_thP, q_thH, q_putS, q_objS, q_fld, q_objP, q_zipL, q_zipT, q_all, q_any, q_kit_NoneType_bool, q_kit_NoneType_int, q_kit_NoneType_str, q_kit_NoneType_list, q_kit_NoneType_tuple, q_kit_NoneType_dict, q_kit_bool_bool, q_kit_bool_int, q_kit_bool_str, q_kit_bool_list, q_kit_bool_tuple, q_kit_bool_dict, q_kit_int_bool, q_kit_int_int, q_kit_int_str, q_kit_int_list, q_kit_int_tuple, q_kit_int_dict, q_kit_str_bool, q_kit_str_int, q_kit_str_str, q_kit_str_list, q_kit_str_tuple, q_kit_str_dict, q_kit_list_bool, q_kit_list_int, q_kit_list_str, q_kit_list_list, q_kit_list_tuple, q_kit_list_dict, q_kit_tuple_bool, q_kit_tuple_int, q_kit_tuple_str, q_kit_tuple_list, q_kit_tuple_tuple, q_kit_tuple_dict, q_kit_dict_bool, q_kit_dict_int, q_kit_dict_str, q_kit_dict_list, q_kit_dict_tuple, q_kit_dict_dict, List.map_cons, List.map_nil, List.length_cons, List.length_nil, List.append_nil, List.cons_append, List.nil_append, List.set_cons_zero, List.set_cons_succ, List.replicate_succ, List.replicate_zero, Nat.reduceSub, Nat.reduceAdd, tyN, List.getD_cons_zero, List.getD_cons_succ, if_true, if_false, true_and, and_true, Nat.zero_add, List.set_nil, Bool.not_true, Bool.not_false])
/-! ### rescues_right: the loop, the end -/
abbrev deskW (a : Addr) (w : Wd) : D := eDesk a (ordB w.book) w.first
theorem wo_ok {w : Wd} (ok : OkW w) {l : Lot} (h : leftB w.book l = true) : OkW ⟨woB w.book l, w.first⟩ := ⟨ok_wo ok.book h, by rw [wo_keys]; exact ok.first⟩
theorem first_ord {w : Wd} (ok : OkW w) : w.first ∈ (ordB w.book).map (·.1) := by
  rw [ordB_keys]; exact sort_mem.mpr ok.first
theorem nis_tt {k : D → Prop} : nisV (.bl true) (.bl true) k = k (.bl false) := rfl
theorem nis_ff {k : D → Prop} : nisV (.bl false) (.bl false) k = k (.bl false) := rfl
theorem ne_pair (x y : Str × Str) : neOk (eP x) (eP y) = true := rfl
theorem due_len {w : Wd} (ok : OkW w) (h6 : (saidP w.book).length ≤ 6) : (dueP w).length ≤ 64 := by
  unfold dueP leastP
  rw [(srt_perm _ _).length_eq]
  refine Nat.le_trans (List.length_filter_le _ _) (Nat.le_trans (List.length_filter_le _ _) ?_)
  rw [lots_len, (srt_perm _ _).length_eq]
  exact Nat.pow_le_pow_right (by decide) h6
theorem due_six {w : Wd} (ok : OkW w) (h6 : (saidP w.book).length ≤ 6) : ∀ l ∈ dueP w, l.length ≤ 6 := fun l hl => by
  have := ((due_mem ok).mp hl).1.length_le
  rw [said_ord_len ok.book] at this
  omega
theorem ex_pairs : ∀ l : Lot, exOks (l.map eP) = true ∧ mzs (l.map eP) ≤ 1
  | [] => by simp [exOks, mzs]
  | p :: l => by
    have := ex_pairs l
    rw [List.map_cons]
    refine ⟨by simp [exOks, this.1, eP, exOk], ?_⟩
    simp only [mzs, eP, mzD]
    omega
theorem ex_lots0 : ∀ ls : List Lot, (∀ l ∈ ls, l.length ≤ 6) → exOks (ls.map eL) = true ∧ mzs (ls.map eL) ≤ 2
  | [], _ => by simp [exOks, mzs]
  | l :: ls, h => by
    have := ex_lots0 ls fun x hx => h x (by simp [hx])
    have h1 := h l (by simp)
    have h2 := ex_pairs l
    rw [List.map_cons]
    refine ⟨by simp only [exOks, this.1, eL, exOk, h2.1, List.length_map, Bool.true_and, Bool.and_true, decide_eq_true_eq]; omega, ?_⟩
    simp only [mzs, eL, mzD]
    omega
theorem ex_lots {ls : List Lot} (h : ls.length ≤ 64) (h6 : ∀ l ∈ ls, l.length ≤ 6) : exOk (eLots ls) = true ∧ mzD (eLots ls) ≤ 3 := by
  have := ex_lots0 ls h6
  refine ⟨by simp only [exOk, this.1, List.length_map, Bool.true_and, decide_eq_true_eq]; omega, ?_⟩
  simp only [mzD]
  omega
theorem eqb_eLots (x y : List Lot) : eqb (eLots x) (eLots y) = decide (x = y) := by
  have A : ∀ x y : List Lot, eqbs (x.map eL) (y.map eL) = decide (x = y) := fun x => by
    induction x with
    | nil => intro y; cases y with
      | nil => simp [eqbs]
      | cons q y => simp [eqbs]
    | cons p x ih =>
      intro y
      cases y with
      | nil => simp [eqbs]
      | cons q y =>
        rw [List.map_cons, List.map_cons]
        simp only [eqbs, ih]
        rw [show eqb (eL p) (eL q) = decide (p = q) from eqb_lots p q]
        by_cases h1 : p = q
        · by_cases h2 : x = y
          · simp [h1, h2]
          · simp [h1, h2]
        · simp [h1]
  simp only [eqb, A]
theorem agr_pairs : ∀ x y : Lot, agrs (x.map eP) (y.map eP) = true
  | [], _ => by simp [agrs]
  | _ :: _, [] => by simp [agrs]
  | p :: x, q :: y => by
    rw [List.map_cons, List.map_cons]
    simp [agrs, agr_pairs x y, eP, agr, seqD]
theorem agr_lots : ∀ x y : List Lot, agrs (x.map eL) (y.map eL) = true
  | [], _ => by simp [agrs]
  | _ :: _, [] => by simp [agrs]
  | p :: x, q :: y => by
    rw [List.map_cons, List.map_cons]
    simp [agrs, agr_lots x y, eL, agr, agr_pairs p q]
theorem ok_pairs : ∀ x : Lot, eqOks (x.map eP) = true
  | [] => by simp [eqOks]
  | p :: x => by rw [List.map_cons]; simp [eqOks, ok_pairs x, eP, eqOk]
theorem ok_lots : ∀ x : List Lot, eqOks (x.map eL) = true
  | [] => by simp [eqOks]
  | p :: x => by rw [List.map_cons]; simp [eqOks, ok_lots x, eL, eqOk, ok_pairs p]
theorem dep_lots : ∀ x : List Lot, deps (x.map eL) ≤ 2
  | [] => by simp [deps]
  | p :: x => by
    have := dep_lots x
    have := dep_pairs p
    rw [List.map_cons]
    simp only [deps, eL, dep]
    omega
theorem cmp_lots (x y : List Lot) : cmpOk (eLots x) (eLots y) = true := by
  have := dep_lots x
  have h4 : dep (eLots x) ≤ 60 := by simp only [dep]; omega
  unfold cmpOk
  rw [decide_eq_true h4]
  simp [eqOk, ok_lots, agr, agr_lots]
theorem w_rr3 (a : Addr) {w : Wd} {N : EndsD} {n : Nat} {x4 x5 x6 x7 : Option S} (ok : OkW w) (h6 : (saidP w.book).length ≤ 6)
    (q : ∀ x5 x6 x7, N.nx [some .pur, some (.c (eWorld w)), some (.c (deskW a w)), some (.c (eLots (dueP w))), x4, x5, x6, x7, none] ⟨[], n⟩) :
    rFor (iIt (rVar 3)) (gNm 5) (t_l_rescues_right_3_b a) N [some .pur, some (.c (eWorld w)), some (.c (deskW a w)), some (.c (eLots (dueP w))), x4, x5, x6, x7, none] ⟨[], n⟩ := by
  have okb := ok_ord ok.book
  walk_at "d"
  show runF _ ((dueP w).map eL) _ _ _
  refine runF_of eL (dueP w) (fun dn ρ μ => ∃ x5 x6 x7, ρ = [some .pur, some (.c (eWorld w)), some (.c (deskW a w)), some (.c (eLots (dueP w))), x4, x5, x6, x7, none] ∧ μ = ⟨[], n⟩) ⟨_, _, _, rfl, rfl⟩ ?_ ?_
  · rintro dn l zs ρ μ k e ⟨x5, x6, x7, rfl, rfl⟩ hk
    have hl : l ∈ dueP w := by rw [e]; simp
    obtain ⟨lo, hv⟩ := due_ok ok hl
    have l6 : l.length ≤ 6 := by
      have := ((due_mem ok).mp hl).1.length_le
      rw [said_ord_len ok.book] at this
      omega
    have hlf : leftB w.book l = true := by rw [← left_ord ok.book]; exact lo.left
    unfold t_l_rescues_right_3_b
    walk_at "d"
    refine ⟨ordB w.book, w.first, l, rfl, okb, first_ord ok, lo, l6, ?_⟩
    rw [ordB_wo ok.book]
    unfold t_l_rescues_right_3_b_1
    walk_at "d"
    refine ⟨ordB (woB w.book l), w.first, rfl, ok_ord (ok_wo ok.book hlf), ?_⟩
    rw [viabB_ord (ok_wo ok.book hlf), hv]
    show nisV (.bl true) (.bl true) _
    rw [nis_tt]
    refine br_f.mpr ⟨w, l, rfl, ok, ?_⟩
    rw [if_pos hlf]
    refine ⟨⟨woB w.book l, w.first⟩, rfl, wo_ok ok hlf, br_f.mpr ?_⟩
    unfold t_l_rescues_right_3_b_2
    walk_at "d"
    show runF _ (l.map eP) _ _ _
    refine runF_of eP l (fun dn ρ μ => ∃ x7, ρ = [some .pur, some (.c (eWorld w)), some (.c (deskW a w)), some (.c (eLots (dueP w))), x4, some (.c (eL l)), some (.c (eDesk a (ordB (woB w.book l)) w.first)), x7, none] ∧ μ = ⟨[], n⟩) ⟨_, rfl, rfl⟩ ?_ ?_
    · rintro dn2 p zs2 ρ μ k2 e2 ⟨x7, rfl, rfl⟩ hk2
      have hp : p ∈ l := by rw [e2]; simp
      obtain ⟨lo2, hv2⟩ := due_but ok hl hp
      have hlf2 : leftB w.book (l.filter fun q => decide (q ≠ p)) = true := by rw [← left_ord ok.book]; exact lo2.left
      unfold t_l_rescues_right_3_b_2_b
      walk_at "d"
      show iterD (.lst (l.map eP)) _
      rw [q_iterL]
      refine ⟨by rw [List.length_map]; show _ ≤ 16777216; omega, ?_⟩
      refine runC_of eP (fun q => decide (q ≠ p)) eP l [] (fun q hq K hK => ?_) ?_
      · refine ⟨ne_pair q p, ?_⟩
        rw [eqb_pair]
        by_cases hqp : q = p
        · rw [decide_eq_true hqp]
          rw [if_neg (by simpa using hqp)] at hK
          exact br_f.mpr hK
        · rw [decide_eq_false hqp]
          rw [if_pos (by simpa using hqp)] at hK
          exact br_t.mpr hK
      · rw [List.nil_append]
        refine ⟨ordB w.book, w.first, _, rfl, okb, first_ord ok, lo2, Nat.le_trans (List.length_filter_le _ _) l6, ?_⟩
        rw [ordB_wo ok.book]
        refine ⟨ordB (woB w.book _), w.first, rfl, ok_ord (ok_wo ok.book hlf2), ?_⟩
        rw [viabB_ord (ok_wo ok.book hlf2), hv2]
        show nisV (.bl false) (.bl false) _
        rw [nis_ff]
        refine br_f.mpr (hk2 _ _ ⟨_, rfl, rfl⟩)
    · rintro ρ μ ⟨x7, rfl, rfl⟩
      exact hk _ _ ⟨_, _, _, rfl, rfl⟩
  · rintro ρ μ ⟨x5, x6, x7, rfl, rfl⟩
    exact q _ _ _
theorem w_rr6 (a : Addr) {w : Wd} {kk : D → Nat → Prop} {n : Nat} {x4 x5 x6 x7 x8 : Option S} (ok : OkW w) (h6 : (saidP w.book).length ≤ 6) (q : kk (.bl true) n) :
    t_l_rescues_right_6 a (ends kk) [some .pur, some (.c (eWorld w)), some (.c (deskW a w)), some (.c (eLots (dueP w))), x4, x5, x6, x7, x8] ⟨[], n⟩ := by
  have okb := ok_ord ok.book
  unfold t_l_rescues_right_6
  walk_at "d"
  refine ⟨ordB w.book, w.first, rfl, okb, first_ord ok, by rw [said_ord_len ok.book]; exact h6, ?_⟩
  rw [due_eq ok]
  refine ⟨w, rfl, ok, ?_⟩
  refine ⟨ordB w.book, w.first, rfl, okb, first_ord ok, by rw [said_ord_len ok.book]; exact h6, ?_⟩
  rw [due_eq ok]
  have dl := due_len ok h6
  have d6 := due_six ok h6
  obtain ⟨g1, g2⟩ := ex_lots dl d6
  refine ⟨by decide, by decide, ⟨.lst [eLots (dueP w), eLots (dueP w)], rfl, ?_, ?_, br_f.mpr ?_⟩⟩
  · simp [exOk, exOks] at g1 ⊢
    exact g1
  · simp only [mzD, mzs] at g2 ⊢
    omega
  unfold t_l_rescues_right_7
  walk_at "d"
  refine ⟨ordB w.book, w.first, rfl, okb, ?_⟩
  refine ⟨by decide, by decide, ?_⟩
  refine ⟨cmp_lots (dueP w) [[]] , ?_⟩
  show sp_l_exact a [S.c (.bl (viabB (ordB w.book) w.first)), S.c (.bl (eqb (eLots (dueP w)) (eLots [[]])))] n _
  rw [eqb_eLots, due_nil ok]
  exact ⟨.bl _, rfl, rfl, by simp [mzD], br_t.mpr ⟨w, rfl, ok, q⟩⟩
end DL
/-! ## KR6 -/
namespace DL
open PySem PySem.Spec PyProof.Rows L2
local macro_rules | `(tactic| walk_at "d") => `(tactic| simp only [rSeq, rSet, rRet, rIfS, rFor, rDrop, rNext, rDead, rBrk, rCont, rPur, rPurSet, rVar, rC, rBin, rCh, rAndV, rOrV, rNotV, rAnd, rOr, rNot, rIf, rT, rCB, rCons, rNil, rCall, rIsi, rIsi2, rIsiC, rSl, rNo, rPt, rNeg, rRev, rTup, rLst, rLstH, rDctH, rDct0, rDisp, rDispH, rP0, rP1, rPar, rPar3, rUnp, rAsg, rAug, iIt, iRng, iRng2, iItems, iVals, iZip, gNm, rMut, rPut, rFrz, rLC, rSetLc, rDc, rDcH, rDC, rYes, rStar, rMeth0, rMake, rFldSet, rEqO, rTur, rJoin, rBits, rIndexD, rList_values, rList_items, rFld, rLC2, rIn, wipeR, br_t, br_f, rho0, ends, endsI, q_sel, q_isB, q_isPur, q_isI, q_strD, q_lstD, q_dkD, q_dkS, q_argS0, q_argSc, q_argSp, q_coldS, q_onS, q_noTy_non, q_noTy_bl, q_noTy_int, q_noTy_str, q_noTy_lst, q_noTy_tup, q_noTy_dk, q_noTy_obj, q_addI, q_addS, q_addL, q_addT, q_intD, q_ltI, q_ltS, q_g1, q_g2, q_lenL, q_lenT, q_lenK, q_lenS, q_intOf, q_listL, q_listT, q_listK, q_listS, q_iterL, q_iterT, q_iterK, q_iterS, q_ixL, q_ixT, q_ixS, q_ixK, q_slS, q_slL, q_inL, q_inK, q_inS, q_inV, q_ninV, q_eqD, q_neD, q_rdC, q_rdH, q_hotL, q_hotK, q_setM0, q_setM1, q_nth0, q_nthS, q_colds0, q_colds1, q_keyI, q_keyS, q_app, q_ins, q_gTp, q_gLs, q_gCs, q_gNl, q_frz0, q_frz1, q_thN, q_thC, q_thP, q_thH, q_putS, q_objS, q_fld, q_objP, q_zipL, q_zipT, q_all, q_any, q_kit_NoneType_bool, q_kit_NoneType_int, q_kit_NoneType_str, q_kit_NoneType_list, q_kit_NoneType_tuple, q_kit_NoneType_dict, q_kit_bool_bool, q_kit_bool_int, q_kit_bool_str, q_kit_bool_list, q_kit_bool_tuple, q_kit_bool_dict, q_kit_int_bool, q_kit_int_int, q_kit_int_str, q_kit_int_list, q_kit_int_tuple, q_kit_int_dict, q_kit_str_bool, q_kit_str_int, q_kit_str_str, q_kit_str_list, q_kit_str_tuple, q_kit_str_dict, q_kit_list_bool, q_kit_list_int, q_kit_list_str, q_kit_list_list, q_kit_list_tuple, q_kit_list_dict, q_kit_tuple_bool, q_kit_tuple_int, q_kit_tuple_str, q_kit_tuple_list, q_kit_tuple_tuple, q_kit_tuple_dict, q_kit_dict_bool, q_kit_dict_int, q_kit_dict_str, q_kit_dict_list, q_kit_dict_tuple, q_kit_dict_dict, List.map_cons, List.map_nil, List.length_cons, List.length_nil, List.append_nil, List.cons_append, List.nil_append, List.set_cons_zero, List.set_cons_succ, List.replicate_succ, List.replicate_zero, Nat.reduceSub, Nat.reduceAdd, tyN, List.getD_cons_zero, List.getD_cons_succ, if_true, if_false, true_and, and_true, Nat.zero_add, List.set_nil, Bool.not_true, Bool.not_false])
theorem noL_dk {α : Type} {f : α → D} : ∀ t : List (Str × α), (∀ p ∈ t, noL (f p.2) = true) → noLk (eT f t) = true
  | [], _ => by simp [eT, noLk]
  | p :: t, h => by
    have ih := noL_dk (f := f) t fun q hq => h q (by simp [hq])
    unfold eT at ih ⊢
    simp only [List.map_cons, noLk, Bool.and_eq_true]
    exact ⟨h p (by simp), ih⟩
theorem noL_desk (a : Addr) (b : Book) (f : Str) : noL (eDesk a b f) = true := by
  have h1 : ∀ p : Str × Row, noL (eRow p.2) = true := fun p => by
    have : noLk (eT D.str p.2.turns) = true := noL_dk (f := D.str) p.2.turns fun _ _ => by simp [noL]
    have h2 : noL (eTurns p.2.turns) = true := this
    simp [eRow, noL, noLs, h2]
  have h2 : noL (eBook b) = true := noL_dk (f := eRow) b fun p _ => h1 p
  simp [eDesk, noL, noLf, h2]
def t_rr (a_Desk : Addr) : RS := rSeq (rPar 2 3 (rCall (sp_l_desk a_Desk) (rCons (rVar 1) rNil)) (rCall (sp_l_own_rescues a_Desk) (rCons (rVar 1) rNil)))
  (rTold 4 (rCall (sp_rescues a_Desk) (rCons (rVar 2) rNil)) (rNot (rT (rCall (sp_l_exact a_Desk) (rCons (rVar 4) (rCons (rVar 3) rNil))))) (rFor (iIt (rVar 3)) (gNm 5) (t_l_rescues_right_3_b a_Desk)) (rT (rBin neD (rVar 4) (rLst rNil))) (rBin ixD (rVar 4) (rC (.int 0))) (rCons (rC .non) rNil) (rCons (rLst rNil) rNil) (t_l_rescues_right_6 a_Desk))
theorem w_rr (a : Addr) : ∀ ss n kk, sp_l_rescues_right a ss n kk → t_rr a (ends kk) (rho0 N_l_rescues_right ss) ⟨[], n⟩ := by
  rintro ss n kk ⟨w, rfl, ok, h7, hn, q⟩
  have h6 : (saidP w.book).length ≤ 6 := by omega
  have okb := ok_ord ok.book
  have dl := due_len ok h6
  have d6 := due_six ok h6
  obtain ⟨g1, g2⟩ := ex_lots dl d6
  unfold t_rr
  walk_at "d"
  refine ⟨w, rfl, ok, ⟨w, rfl, ok, h6, ?_⟩⟩
  show rTold _ _ _ _ _ _ _ _ _ _ [some .pur, some (.c (eWorld w)), some (.c (deskW a w)), some (.c (eLots (dueP w))), none, none, none, none, none] ⟨[], n⟩
  have hne : neOk (eLots (dueP w)) (eLots []) = true := by
    have := dep_lots (dueP w)
    have h4 : dep (eLots (dueP w)) ≤ 60 := by simp only [dep]; omega
    have A : ∀ ls : List Lot, seqDs (ls.map eL) = true := fun ls => by
      induction ls with
      | nil => rfl
      | cons x ls ih => rw [List.map_cons]; simp only [seqDs, ih, eL, seqD, seq_pairs, Bool.and_self]
    unfold neOk
    rw [decide_eq_true h4]
    simp [seqD, A, seqDs]
  refine ⟨rfl, by simp, (dueP w).map eL, by rw [List.length_map]; omega, ?_, ?_, ?_, ?_, ?_, ?_, ?_⟩
  · have hm : mask1 (some (.c (deskW a w))) = some (.c (deskW a w)) := by
      show (if noL (eDesk a _ _) = true then _ else _) = _
      rw [if_pos (noL_desk _ _ _)]
    simp only [List.map_cons, List.map_nil, hm]
    walk_at "d"
    refine ⟨ordB w.book, w.first, rfl, okb, first_ord ok, by rw [said_ord_len ok.book]; exact h6, ?_⟩
    rw [due_eq ok]
    exact ⟨rfl, rfl⟩
  · walk_at "d"
    exact ⟨eLots (dueP w), rfl, g1, by omega, rfl, rfl⟩
  · show rT (rBin neD (rVar 4) (rLst rNil)) [none, none, none, none, some (.c (eLots (dueP w))), none, none, none, none] _ _
    walk_at "d"
    refine ⟨by decide, hne, fun hb => ?_⟩
    rw [show eqb (eLots (dueP w)) (D.lst []) = decide (dueP w = []) from eqb_eLots (dueP w) []] at hb
    intro he
    rw [List.map_eq_nil_iff.mp he] at hb
    exact absurd hb (by decide)
  · intro hL
    cases hd : dueP w with
    | nil => rw [hd] at hL; exact absurd rfl hL
    | cons l0 ls =>
      refine ⟨l0.map eP, by rw [List.length_map]; have := d6 l0 (by rw [hd]; simp); omega, ?_⟩
      show rBin ixD (rVar 4) (rC (.int 0)) [none, none, none, none, some (.c (eLots (l0 :: ls))), none, none, none, none] _ _
      walk_at "d"
      rw [atI_zero]
      exact rfl
  · exact ⟨rfl, rfl⟩
  · exact ⟨by decide, rfl, rfl⟩
  · intro c
    refine w_rr3 a ok h6 fun x5 x6 x7 => ⟨rfl, rfl, rfl, ?_⟩
    exact w_rr6 a ok h6 (q n (Nat.le_refl _) (by omega))
theorem d_rr {P : Program} {w : World} {K : PySem.W.Frag} {mg : Str → Option Value} {base : Heap} {a_Desk : Addr} (T : TX w K mg a_Desk) (G_l_desk : FnD P w K mg base 11 "_law_desk" (sp_l_desk a_Desk)) (G_l_own_rescues : FnD P w K mg base 5 "_law_own_rescues" (sp_l_own_rescues a_Desk)) (G_rescues : FnD P w K mg base 13 "rescues" (sp_rescues a_Desk)) (G_l_exact : FnD P w K mg base 15 "_law_exact" (sp_l_exact a_Desk)) (G_dropped : FnD P w K mg base 13 "dropped" (sp_dropped a_Desk)) (G_has_partner : FnD P w K mg base 11 "has_partner" (sp_has_partner a_Desk)) (G_l_without : FnD P w K mg base 3 "_law_without" (sp_l_without a_Desk)) (G_l_stays : FnD P w K mg base 17 "_law_stays" (sp_l_stays a_Desk)) (G_l_turned_book : FnD P w K mg base 11 "_law_turned_book" (sp_l_turned_book a_Desk)) {f : Addr} (cdv : Value) (A : Around) (outer : List Env) (s : Shared) (H : Hp) (E : XK) (pu : Option Addr) (hr : Room 18 (A.deeper (envOfC "_law_rescues_right" (defScope s_l_rescues_right) s.heap.objs.size f cdv))) :
    DSs (cxOf CX0 P w K mg base N_l_rescues_right "_law_rescues_right" (defScope s_l_rescues_right) f cdv A outer s H E).nox pu (defBody s_l_rescues_right) (t_rr a_Desk) := by
  have nd := sc_l_rescues_right.nd
  have hu := hu_of hr
  have hu64 := hr.units
  exact (dss_cons (ds_par 2 3 rfl nd rfl rfl (by decide) rfl rfl (de_call G_l_desk (hr.mono (by decide)) rfl (da_cons (de_var 1) da_nil)) (de_call G_l_own_rescues (hr.mono (by decide)) rfl (da_cons (de_var 1) da_nil)) (by rfl))
  (dss_told 4 nd rfl (.inl rfl) (by first | exact .inl rfl | exact .inr rfl) (de_call G_rescues (hr.mono (by decide)) rfl (da_cons (de_var 2) da_nil))
  (dt_not (dt_of (de_call G_l_exact (hr.mono (by decide)) rfl (da_cons (de_var 4) (da_cons (de_var 3) da_nil)))))
  (ds_for PassesOwn.never rfl (di_it (de_var 3)) (dg_name 5 nd rfl (.inl rfl))
  (dss_cons (ds_set 6 nd rfl (.inl rfl) (de_call G_dropped (hr.mono (by decide)) rfl (da_cons (de_var 2) (da_cons (de_ct (dc_list rfl) rfl T.m_list (by decide +kernel) (da_cons (de_var 5) da_nil)) da_nil))))
  (dss_cons (ds_if (dt_bool (dw_or (dt_cmp d2_nis (de_call G_has_partner (hr.mono (by decide)) rfl (da_cons (de_var 6) da_nil)) de_bl rfl) (dw_one_or (dt_not (dt_of (de_call G_l_stays (hr.mono (by decide)) rfl (da_cons (de_call G_l_without (hr.mono (by decide)) rfl (da_cons (de_var 1) (da_cons (de_var 5) da_nil))) (da_cons (de_var 6) da_nil))))))))
  (dss_one (ds_ret de_bl))
  dss_nil)
  (dss_one (ds_for PassesOwn.never rfl (di_it (de_var 5)) (dg_name 7 nd rfl (.inr rfl))
  (dss_one (ds_if (dt_cmp d2_nis (de_call G_has_partner (hr.mono (by decide)) rfl (da_cons (de_call G_dropped (hr.mono (by decide)) rfl (da_cons (de_var 2) (da_cons (de_lc (own := [("_law_other", 8)]) rfl nd (di_it (de_var 5)) (blkOk_by (by rfl)) (by decide) (fun _ _ _ _ _ => (dg_name 8 nd rfl (.inl rfl))) (fun _ _ _ _ _ => (dts_one (dt_cmp (d2_ne hu64) (de_var 8) (de_var 7) rfl))) (fun _ _ _ _ _ => (de_var 8))) da_nil))) da_nil)) de_bl rfl)
  (dss_one (ds_ret de_bl))
  dss_nil)))))))
  (dt_cmp (d2_ne hu64) (de_var 4) (de_lst da_nil) rfl)
  (de_ix (di_ix hu) (de_var 4) de_int (fun _ _ => rfl)) (da_cons de_non da_nil) (de_var 4) (da_cons (de_lst da_nil) da_nil)
  (dss_cons (ds_if (dt_not (dt_of (de_call G_l_exact (hr.mono (by decide)) rfl (da_cons (de_lst (da_cons (de_call G_rescues (hr.mono (by decide)) rfl (da_cons (de_var 2) da_nil)) (da_cons (de_call G_rescues (hr.mono (by decide)) rfl (da_cons (de_call G_l_turned_book (hr.mono (by decide)) rfl (da_cons (de_var 1) da_nil)) da_nil)) da_nil))) (da_cons (de_lst (da_cons (de_var 3) (da_cons (de_var 3) da_nil))) da_nil)))))
  (dss_one (ds_ret de_bl))
  dss_nil)
  (dss_one (ds_ret (de_and (de_call G_l_exact (hr.mono (by decide)) rfl (da_cons (de_call G_has_partner (hr.mono (by decide)) rfl (da_cons (de_var 2) da_nil)) (da_cons (de_cmp (d2_eq hu64) (de_var 3) (de_lst (da_cons (de_lst da_nil) da_nil)) rfl) da_nil))) (de_one (de_call G_l_stays (hr.mono (by decide)) rfl (da_cons (de_var 1) (da_cons (de_var 2) da_nil))))))))))
end DL
/-! ## FA -/
namespace DL
open PySem PySem.Spec PyProof.Rows L2
/-- where a def of the module stands -/
def DefAt (K : PySem.W.Frag) (mg : Str → Option Value) (x : Str) (st : Stmt) (ps : List Str) : Prop := ∃ (f : Addr) (fd : FuncData), Fun K x x st f fd ∧ mg x = some (.ref f) ∧ Binds K fd ps []
def MetAt (K : PySem.W.Frag) (C : Addr) (m q : Str) (st : Stmt) (ps : List Str) : Prop := ∃ (f : Addr) (fd : FuncData), Fun K m q st f fd ∧ Meth K C m f ∧ Binds K fd ps []
structure Facts (w : World) (K : PySem.W.Frag) (mg : Str → Option Value) (aD : Addr) : Prop where
  T : TX w K mg aD
  hmk : PySem.W.makesIn K aD = true
  kc : PySem.W.keepIn K (.ref aD) = true
  d_l_purse : DefAt K mg "_law_purse" s_l_purse ["_law_script", "_law_at"]
  d_l_purses : DefAt K mg "_law_purses" s_l_purses ["_law_script", "_law_few"]
  d_l_mixed : DefAt K mg "_law_mixed" s_l_mixed ["_law_seed", "_law_turn", "_law_at"]
  d_l_draw : DefAt K mg "_law_draw" s_l_draw ["_law_purse_here", "_law_many"]
  d_l_word : DefAt K mg "_law_word" s_l_word ["_law_purse_here"]
  d_l_words : DefAt K mg "_law_words" s_l_words ["_law_purse_here", "_law_many"]
  d_l_shuffled : DefAt K mg "_law_shuffled" s_l_shuffled ["_law_purse_here", "_law_some"]
  d_l_pool : DefAt K mg "_law_pool" s_l_pool ["_law_purse_here"]
  d_l_one_of : DefAt K mg "_law_one_of" s_l_one_of ["_law_purse_here", "_law_some"]
  d_l_turns : DefAt K mg "_law_turns" s_l_turns ["_law_purse_here", "_law_states", "_law_words_here", "_law_at", "_law_top"]
  d_l_world : DefAt K mg "_law_world" s_l_world ["_law_purse_here", "_law_many", "_law_words_here", "_law_top"]
  d_l_shape : DefAt K mg "_law_shape" s_l_shape ["_law_purse_here", "_law_words_here"]
  d_l_row_of : DefAt K mg "_law_row_of" s_l_row_of ["_law_purse_here", "_law_top"]
  d_l_said_words : DefAt K mg "_law_said_words" s_l_said_words ["_law_world_here"]
  d_is_spelt : DefAt K mg "is_spelt" s_is_spelt ["value"]
  d_is_row : DefAt K mg "is_row" s_is_row ["value"]
  d_is_book : DefAt K mg "is_book" s_is_book ["value"]
  d_copied : DefAt K mg "copied" s_copied ["row"]
  d_Desk___init__ : MetAt K aD "__init__" "Desk.__init__" s_Desk___init__ ["self", "book", "start"]
  d_l_desk : DefAt K mg "_law_desk" s_l_desk ["_law_world_here"]
  d_l_without : DefAt K mg "_law_without" s_l_without ["_law_world_here", "_law_lot"]
  d_l_viable : DefAt K mg "_law_viable" s_l_viable ["_law_world_here"]
  d_l_own_rescues : DefAt K mg "_law_own_rescues" s_l_own_rescues ["_law_world_here"]
  d_check_desk : DefAt K mg "check_desk" s_check_desk ["value"]
  d_words_at : DefAt K mg "words_at" s_words_at ["desk", "kind"]
  d_lots_of : DefAt K mg "lots_of" s_lots_of ["things"]
  d_are_left : DefAt K mg "are_left" s_are_left ["desk", "some"]
  d_droppable_from : DefAt K mg "droppable_from" s_droppable_from ["desk"]
  d_without : DefAt K mg "without" s_without ["desk", "some"]
  d_ranked : DefAt K mg "ranked" s_ranked ["rows", "left"]
  d_rounds : DefAt K mg "rounds" s_rounds ["rows"]
  d_ranks_of : DefAt K mg "ranks_of" s_ranks_of ["desk"]
  d_is_viable : DefAt K mg "is_viable" s_is_viable ["desk"]
  d_lies_in : DefAt K mg "lies_in" s_lies_in ["lot", "other"]
  d_least_of : DefAt K mg "least_of" s_least_of ["lots"]
  d_rescues : DefAt K mg "rescues" s_rescues ["desk"]
  d_l_exact : DefAt K mg "_law_exact" s_l_exact ["_law_mine", "_law_theirs"]
  d_is_word_at : DefAt K mg "is_word_at" s_is_word_at ["value"]
  d_is_ascending : DefAt K mg "is_ascending" s_is_ascending ["values"]
  d_is_list_of : DefAt K mg "is_list_of" s_is_list_of ["desk", "kind", "value"]
  d_check_lot : DefAt K mg "check_lot" s_check_lot ["desk", "lot"]
  d_dropped : DefAt K mg "dropped" s_dropped ["desk", "lot"]
  d_has_partner : DefAt K mg "has_partner" s_has_partner ["desk"]
  d_Desk_start : MetAt K aD "start" "Desk.start" s_Desk_start ["self"]
  d_Desk_book : MetAt K aD "book" "Desk.book" s_Desk_book ["self"]
  d_Desk___eq__ : MetAt K aD "__eq__" "Desk.__eq__" s_Desk___eq__ ["self", "other"]
  d_l_stays : DefAt K mg "_law_stays" s_l_stays ["_law_world_here", "_law_desk_here"]
  d_l_turned_book : DefAt K mg "_law_turned_book" s_l_turned_book ["_law_world_here"]
  d_l_rescues_right : DefAt K mg "_law_rescues_right" s_l_rescues_right ["_law_purse_here", "_law_world_here"]
  d_law : DefAt K mg "law" s_law ["_law_script"]
theorem facts_mk {w : World} {K : PySem.W.Frag} {h : Heap} {mg : Str → Option Value} (X : K.In h) (G : h.Ns mainGlobals mg)
    {aD dT : Addr} {tL : Tok} {eT : Array DictEntry} {nT : Nat} {uT1 uT2 uT3 : Value}
    {f1 : Addr} {od1 an1 : Option Addr} {sl1 : Array (Option Value)} {oc1 kV1 dc1 pm1 cd1 ct1 : Value}
    {f2 : Addr} {od2 an2 : Option Addr} {sl2 : Array (Option Value)} {oc2 kV2 dc2 pm2 cd2 ct2 : Value}
    {f3 : Addr} {od3 an3 : Option Addr} {sl3 : Array (Option Value)} {oc3 kV3 dc3 pm3 cd3 ct3 : Value}
    {f4 : Addr} {od4 an4 : Option Addr} {sl4 : Array (Option Value)} {oc4 kV4 dc4 pm4 cd4 ct4 : Value}
    {f5 : Addr} {od5 an5 : Option Addr} {sl5 : Array (Option Value)} {oc5 kV5 dc5 pm5 cd5 ct5 : Value}
    {f6 : Addr} {od6 an6 : Option Addr} {sl6 : Array (Option Value)} {oc6 kV6 dc6 pm6 cd6 ct6 : Value}
    {f7 : Addr} {od7 an7 : Option Addr} {sl7 : Array (Option Value)} {oc7 kV7 dc7 pm7 cd7 ct7 : Value}
    {f8 : Addr} {od8 an8 : Option Addr} {sl8 : Array (Option Value)} {oc8 kV8 dc8 pm8 cd8 ct8 : Value}
    {f9 : Addr} {od9 an9 : Option Addr} {sl9 : Array (Option Value)} {oc9 kV9 dc9 pm9 cd9 ct9 : Value}
    {f10 : Addr} {od10 an10 : Option Addr} {sl10 : Array (Option Value)} {oc10 kV10 dc10 pm10 cd10 ct10 : Value}
    {f11 : Addr} {od11 an11 : Option Addr} {sl11 : Array (Option Value)} {oc11 kV11 dc11 pm11 cd11 ct11 : Value}
    {f12 : Addr} {od12 an12 : Option Addr} {sl12 : Array (Option Value)} {oc12 kV12 dc12 pm12 cd12 ct12 : Value}
    {f13 : Addr} {od13 an13 : Option Addr} {sl13 : Array (Option Value)} {oc13 kV13 dc13 pm13 cd13 ct13 : Value}
    {f14 : Addr} {od14 an14 : Option Addr} {sl14 : Array (Option Value)} {oc14 kV14 dc14 pm14 cd14 ct14 : Value}
    {f15 : Addr} {od15 an15 : Option Addr} {sl15 : Array (Option Value)} {oc15 kV15 dc15 pm15 cd15 ct15 : Value}
    {f16 : Addr} {od16 an16 : Option Addr} {sl16 : Array (Option Value)} {oc16 kV16 dc16 pm16 cd16 ct16 : Value}
    {f17 : Addr} {od17 an17 : Option Addr} {sl17 : Array (Option Value)} {oc17 kV17 dc17 pm17 cd17 ct17 : Value}
    {f18 : Addr} {od18 an18 : Option Addr} {sl18 : Array (Option Value)} {oc18 kV18 dc18 pm18 cd18 ct18 : Value}
    {f19 : Addr} {od19 an19 : Option Addr} {sl19 : Array (Option Value)} {oc19 kV19 dc19 pm19 cd19 ct19 : Value}
    {f20 : Addr} {od20 an20 : Option Addr} {sl20 : Array (Option Value)} {oc20 kV20 dc20 pm20 cd20 ct20 : Value}
    {f21 : Addr} {od21 an21 : Option Addr} {sl21 : Array (Option Value)} {oc21 kV21 dc21 pm21 cd21 ct21 : Value}
    {f22 : Addr} {od22 an22 : Option Addr} {sl22 : Array (Option Value)} {oc22 kV22 dc22 pm22 cd22 ct22 : Value}
    {f23 : Addr} {od23 an23 : Option Addr} {sl23 : Array (Option Value)} {oc23 kV23 dc23 pm23 cd23 ct23 : Value}
    {f24 : Addr} {od24 an24 : Option Addr} {sl24 : Array (Option Value)} {oc24 kV24 dc24 pm24 cd24 ct24 : Value}
    {f25 : Addr} {od25 an25 : Option Addr} {sl25 : Array (Option Value)} {oc25 kV25 dc25 pm25 cd25 ct25 : Value}
    {f26 : Addr} {od26 an26 : Option Addr} {sl26 : Array (Option Value)} {oc26 kV26 dc26 pm26 cd26 ct26 : Value}
    {f27 : Addr} {od27 an27 : Option Addr} {sl27 : Array (Option Value)} {oc27 kV27 dc27 pm27 cd27 ct27 : Value}
    {f28 : Addr} {od28 an28 : Option Addr} {sl28 : Array (Option Value)} {oc28 kV28 dc28 pm28 cd28 ct28 : Value}
    {f29 : Addr} {od29 an29 : Option Addr} {sl29 : Array (Option Value)} {oc29 kV29 dc29 pm29 cd29 ct29 : Value}
    {f30 : Addr} {od30 an30 : Option Addr} {sl30 : Array (Option Value)} {oc30 kV30 dc30 pm30 cd30 ct30 : Value}
    {f31 : Addr} {od31 an31 : Option Addr} {sl31 : Array (Option Value)} {oc31 kV31 dc31 pm31 cd31 ct31 : Value}
    {f32 : Addr} {od32 an32 : Option Addr} {sl32 : Array (Option Value)} {oc32 kV32 dc32 pm32 cd32 ct32 : Value}
    {f33 : Addr} {od33 an33 : Option Addr} {sl33 : Array (Option Value)} {oc33 kV33 dc33 pm33 cd33 ct33 : Value}
    {f34 : Addr} {od34 an34 : Option Addr} {sl34 : Array (Option Value)} {oc34 kV34 dc34 pm34 cd34 ct34 : Value}
    {f35 : Addr} {od35 an35 : Option Addr} {sl35 : Array (Option Value)} {oc35 kV35 dc35 pm35 cd35 ct35 : Value}
    {f36 : Addr} {od36 an36 : Option Addr} {sl36 : Array (Option Value)} {oc36 kV36 dc36 pm36 cd36 ct36 : Value}
    {f37 : Addr} {od37 an37 : Option Addr} {sl37 : Array (Option Value)} {oc37 kV37 dc37 pm37 cd37 ct37 : Value}
    {f38 : Addr} {od38 an38 : Option Addr} {sl38 : Array (Option Value)} {oc38 kV38 dc38 pm38 cd38 ct38 : Value}
    {f39 : Addr} {od39 an39 : Option Addr} {sl39 : Array (Option Value)} {oc39 kV39 dc39 pm39 cd39 ct39 : Value}
    {f40 : Addr} {od40 an40 : Option Addr} {sl40 : Array (Option Value)} {oc40 kV40 dc40 pm40 cd40 ct40 : Value}
    {f41 : Addr} {od41 an41 : Option Addr} {sl41 : Array (Option Value)} {oc41 kV41 dc41 pm41 cd41 ct41 : Value}
    {f42 : Addr} {od42 an42 : Option Addr} {sl42 : Array (Option Value)} {oc42 kV42 dc42 pm42 cd42 ct42 : Value}
    {f43 : Addr} {od43 an43 : Option Addr} {sl43 : Array (Option Value)} {oc43 kV43 dc43 pm43 cd43 ct43 : Value}
    {f44 : Addr} {od44 an44 : Option Addr} {sl44 : Array (Option Value)} {oc44 kV44 dc44 pm44 cd44 ct44 : Value}
    {f45 : Addr} {od45 an45 : Option Addr} {sl45 : Array (Option Value)} {oc45 kV45 dc45 pm45 cd45 ct45 : Value}
    {f46 : Addr} {od46 an46 : Option Addr} {sl46 : Array (Option Value)} {oc46 kV46 dc46 pm46 cd46 ct46 : Value}
    {f47 : Addr} {od47 an47 : Option Addr} {sl47 : Array (Option Value)} {oc47 kV47 dc47 pm47 cd47 ct47 : Value}
    {f48 : Addr} {od48 an48 : Option Addr} {sl48 : Array (Option Value)} {oc48 kV48 dc48 pm48 cd48 ct48 : Value}
    {f49 : Addr} {od49 an49 : Option Addr} {sl49 : Array (Option Value)} {oc49 kV49 dc49 pm49 cd49 ct49 : Value}
    {f50 : Addr} {od50 an50 : Option Addr} {sl50 : Array (Option Value)} {oc50 kV50 dc50 pm50 cd50 ct50 : Value}
    (aC : PySem.W.nsIn K mainGlobals "Desk" = some (some (.ref aD)))
    (z_all : PySem.W.nsIn K mainGlobals "all" = some none)
    (z_any : PySem.W.nsIn K mainGlobals "any" = some none)
    (z_bool : PySem.W.nsIn K mainGlobals "bool" = some none)
    (z_dict : PySem.W.nsIn K mainGlobals "dict" = some none)
    (z_int : PySem.W.nsIn K mainGlobals "int" = some none)
    (z_isinstance : PySem.W.nsIn K mainGlobals "isinstance" = some none)
    (z_len : PySem.W.nsIn K mainGlobals "len" = some none)
    (z_list : PySem.W.nsIn K mainGlobals "list" = some none)
    (z_max : PySem.W.nsIn K mainGlobals "max" = some none)
    (z_min : PySem.W.nsIn K mainGlobals "min" = some none)
    (z_range : PySem.W.nsIn K mainGlobals "range" = some none)
    (z_sorted : PySem.W.nsIn K mainGlobals "sorted" = some none)
    (z_str : PySem.W.nsIn K mainGlobals "str" = some none)
    (z_sum : PySem.W.nsIn K mainGlobals "sum" = some none)
    (z_tuple : PySem.W.nsIn K mainGlobals "tuple" = some none)
    (z_zip : PySem.W.nsIn K mainGlobals "zip" = some none)
    (aL : PySem.W.nsIn K mainGlobals "LETTERS" = some (some (.str "abcdefghijklmnopqrstuvwxyz" tL)))
    (aT : PySem.W.nsIn K mainGlobals "TURNED" = some (some (.ref dT)))
    (lT : K.lookup dT = some ⟨.type "dict", none, .dict eT nT, #[]⟩)
    (litT : PySem.W.KeysLit w.params eT.toList)
    (lowT : (dT == sysModules) = false)
    (uT1e : PySem.W.nsIn K dT "says" = some (some uT1))
    (uT2e : PySem.W.nsIn K dT "hears" = some (some uT2))
    (uT3e : PySem.W.nsIn K dT "done" = some (some uT3))
    (c_pg : PySem.W.plainGet K aD Str.empty = true)
    (c_hd : PySem.W.hasDictIn K aD = true)
    (c_po : PySem.W.plainOver K aD = true)
    (c_sa : PySem.W.findIn K (.ref aD) "__setattr__" = some (some (.builtin "object.__setattr__")))
    (n_rows : PySem.W.findIn K (.ref aD) "rows" = some none)
    (n_first : PySem.W.findIn K (.ref aD) "first" = some none)
    (o_ha : PySem.W.findIn K (.ref aD) "__class__" = some (some (.builtin "object.__class__")))
    (o_hn : PySem.W.specialIn K (.builtin "object.__class__") "__get__" = some (some (.builtin "getset_descriptor.__get__")))
    (o_tk : PySem.W.takesIn K (.builtin "object.__class__") = some true)
    (o_hm : PySem.W.mroIn K aD (.type "object") = some true)
    (o_n0 : PySem.W.kitOne K (.type "NoneType") (.ref aD) = some false)
    (o_n1 : PySem.W.kitOne K (.type "bool") (.ref aD) = some false)
    (o_n2 : PySem.W.kitOne K (.type "int") (.ref aD) = some false)
    (o_n3 : PySem.W.kitOne K (.type "str") (.ref aD) = some false)
    (o_n4 : PySem.W.kitOne K (.type "list") (.ref aD) = some false)
    (o_n5 : PySem.W.kitOne K (.type "tuple") (.ref aD) = some false)
    (o_n6 : PySem.W.kitOne K (.type "dict") (.ref aD) = some false)
    (k_mk : PySem.W.makesIn K aD = true)
    (k_kc : PySem.W.keepIn K (.ref aD) = true)
    (a1 : PySem.W.nsIn K mainGlobals "_law_purse" = some (some (.ref f1)))
    (l1 : K.lookup f1 = some ⟨oc1, od1, .func (PySem.W.fnOf "_law_purse" "_law_purse" (defArgs s_l_purse) (defBody s_l_purse) (defScope s_l_purse) .none kV1 dc1 pm1 an1 cd1 ct1), sl1⟩)
    (c1 : PySem.W.codeIn K cd1 "_law_purse" = true)
    (k1 : PySem.W.keepIn K (.ref f1) = true)
    (a2 : PySem.W.nsIn K mainGlobals "_law_purses" = some (some (.ref f2)))
    (l2 : K.lookup f2 = some ⟨oc2, od2, .func (PySem.W.fnOf "_law_purses" "_law_purses" (defArgs s_l_purses) (defBody s_l_purses) (defScope s_l_purses) .none kV2 dc2 pm2 an2 cd2 ct2), sl2⟩)
    (c2 : PySem.W.codeIn K cd2 "_law_purses" = true)
    (k2 : PySem.W.keepIn K (.ref f2) = true)
    (a3 : PySem.W.nsIn K mainGlobals "_law_mixed" = some (some (.ref f3)))
    (l3 : K.lookup f3 = some ⟨oc3, od3, .func (PySem.W.fnOf "_law_mixed" "_law_mixed" (defArgs s_l_mixed) (defBody s_l_mixed) (defScope s_l_mixed) .none kV3 dc3 pm3 an3 cd3 ct3), sl3⟩)
    (c3 : PySem.W.codeIn K cd3 "_law_mixed" = true)
    (k3 : PySem.W.keepIn K (.ref f3) = true)
    (a4 : PySem.W.nsIn K mainGlobals "_law_draw" = some (some (.ref f4)))
    (l4 : K.lookup f4 = some ⟨oc4, od4, .func (PySem.W.fnOf "_law_draw" "_law_draw" (defArgs s_l_draw) (defBody s_l_draw) (defScope s_l_draw) .none kV4 dc4 pm4 an4 cd4 ct4), sl4⟩)
    (c4 : PySem.W.codeIn K cd4 "_law_draw" = true)
    (k4 : PySem.W.keepIn K (.ref f4) = true)
    (a5 : PySem.W.nsIn K mainGlobals "_law_word" = some (some (.ref f5)))
    (l5 : K.lookup f5 = some ⟨oc5, od5, .func (PySem.W.fnOf "_law_word" "_law_word" (defArgs s_l_word) (defBody s_l_word) (defScope s_l_word) .none kV5 dc5 pm5 an5 cd5 ct5), sl5⟩)
    (c5 : PySem.W.codeIn K cd5 "_law_word" = true)
    (k5 : PySem.W.keepIn K (.ref f5) = true)
    (a6 : PySem.W.nsIn K mainGlobals "_law_words" = some (some (.ref f6)))
    (l6 : K.lookup f6 = some ⟨oc6, od6, .func (PySem.W.fnOf "_law_words" "_law_words" (defArgs s_l_words) (defBody s_l_words) (defScope s_l_words) .none kV6 dc6 pm6 an6 cd6 ct6), sl6⟩)
    (c6 : PySem.W.codeIn K cd6 "_law_words" = true)
    (k6 : PySem.W.keepIn K (.ref f6) = true)
    (a7 : PySem.W.nsIn K mainGlobals "_law_shuffled" = some (some (.ref f7)))
    (l7 : K.lookup f7 = some ⟨oc7, od7, .func (PySem.W.fnOf "_law_shuffled" "_law_shuffled" (defArgs s_l_shuffled) (defBody s_l_shuffled) (defScope s_l_shuffled) .none kV7 dc7 pm7 an7 cd7 ct7), sl7⟩)
    (c7 : PySem.W.codeIn K cd7 "_law_shuffled" = true)
    (k7 : PySem.W.keepIn K (.ref f7) = true)
    (a8 : PySem.W.nsIn K mainGlobals "_law_pool" = some (some (.ref f8)))
    (l8 : K.lookup f8 = some ⟨oc8, od8, .func (PySem.W.fnOf "_law_pool" "_law_pool" (defArgs s_l_pool) (defBody s_l_pool) (defScope s_l_pool) .none kV8 dc8 pm8 an8 cd8 ct8), sl8⟩)
    (c8 : PySem.W.codeIn K cd8 "_law_pool" = true)
    (k8 : PySem.W.keepIn K (.ref f8) = true)
    (a9 : PySem.W.nsIn K mainGlobals "_law_one_of" = some (some (.ref f9)))
    (l9 : K.lookup f9 = some ⟨oc9, od9, .func (PySem.W.fnOf "_law_one_of" "_law_one_of" (defArgs s_l_one_of) (defBody s_l_one_of) (defScope s_l_one_of) .none kV9 dc9 pm9 an9 cd9 ct9), sl9⟩)
    (c9 : PySem.W.codeIn K cd9 "_law_one_of" = true)
    (k9 : PySem.W.keepIn K (.ref f9) = true)
    (a10 : PySem.W.nsIn K mainGlobals "_law_turns" = some (some (.ref f10)))
    (l10 : K.lookup f10 = some ⟨oc10, od10, .func (PySem.W.fnOf "_law_turns" "_law_turns" (defArgs s_l_turns) (defBody s_l_turns) (defScope s_l_turns) .none kV10 dc10 pm10 an10 cd10 ct10), sl10⟩)
    (c10 : PySem.W.codeIn K cd10 "_law_turns" = true)
    (k10 : PySem.W.keepIn K (.ref f10) = true)
    (a11 : PySem.W.nsIn K mainGlobals "_law_world" = some (some (.ref f11)))
    (l11 : K.lookup f11 = some ⟨oc11, od11, .func (PySem.W.fnOf "_law_world" "_law_world" (defArgs s_l_world) (defBody s_l_world) (defScope s_l_world) .none kV11 dc11 pm11 an11 cd11 ct11), sl11⟩)
    (c11 : PySem.W.codeIn K cd11 "_law_world" = true)
    (k11 : PySem.W.keepIn K (.ref f11) = true)
    (a12 : PySem.W.nsIn K mainGlobals "_law_shape" = some (some (.ref f12)))
    (l12 : K.lookup f12 = some ⟨oc12, od12, .func (PySem.W.fnOf "_law_shape" "_law_shape" (defArgs s_l_shape) (defBody s_l_shape) (defScope s_l_shape) .none kV12 dc12 pm12 an12 cd12 ct12), sl12⟩)
    (c12 : PySem.W.codeIn K cd12 "_law_shape" = true)
    (k12 : PySem.W.keepIn K (.ref f12) = true)
    (a13 : PySem.W.nsIn K mainGlobals "_law_row_of" = some (some (.ref f13)))
    (l13 : K.lookup f13 = some ⟨oc13, od13, .func (PySem.W.fnOf "_law_row_of" "_law_row_of" (defArgs s_l_row_of) (defBody s_l_row_of) (defScope s_l_row_of) .none kV13 dc13 pm13 an13 cd13 ct13), sl13⟩)
    (c13 : PySem.W.codeIn K cd13 "_law_row_of" = true)
    (k13 : PySem.W.keepIn K (.ref f13) = true)
    (a14 : PySem.W.nsIn K mainGlobals "_law_said_words" = some (some (.ref f14)))
    (l14 : K.lookup f14 = some ⟨oc14, od14, .func (PySem.W.fnOf "_law_said_words" "_law_said_words" (defArgs s_l_said_words) (defBody s_l_said_words) (defScope s_l_said_words) .none kV14 dc14 pm14 an14 cd14 ct14), sl14⟩)
    (c14 : PySem.W.codeIn K cd14 "_law_said_words" = true)
    (k14 : PySem.W.keepIn K (.ref f14) = true)
    (a15 : PySem.W.nsIn K mainGlobals "is_spelt" = some (some (.ref f15)))
    (l15 : K.lookup f15 = some ⟨oc15, od15, .func (PySem.W.fnOf "is_spelt" "is_spelt" (defArgs s_is_spelt) (defBody s_is_spelt) (defScope s_is_spelt) .none kV15 dc15 pm15 an15 cd15 ct15), sl15⟩)
    (c15 : PySem.W.codeIn K cd15 "is_spelt" = true)
    (k15 : PySem.W.keepIn K (.ref f15) = true)
    (a16 : PySem.W.nsIn K mainGlobals "is_row" = some (some (.ref f16)))
    (l16 : K.lookup f16 = some ⟨oc16, od16, .func (PySem.W.fnOf "is_row" "is_row" (defArgs s_is_row) (defBody s_is_row) (defScope s_is_row) .none kV16 dc16 pm16 an16 cd16 ct16), sl16⟩)
    (c16 : PySem.W.codeIn K cd16 "is_row" = true)
    (k16 : PySem.W.keepIn K (.ref f16) = true)
    (a17 : PySem.W.nsIn K mainGlobals "is_book" = some (some (.ref f17)))
    (l17 : K.lookup f17 = some ⟨oc17, od17, .func (PySem.W.fnOf "is_book" "is_book" (defArgs s_is_book) (defBody s_is_book) (defScope s_is_book) .none kV17 dc17 pm17 an17 cd17 ct17), sl17⟩)
    (c17 : PySem.W.codeIn K cd17 "is_book" = true)
    (k17 : PySem.W.keepIn K (.ref f17) = true)
    (a18 : PySem.W.nsIn K mainGlobals "copied" = some (some (.ref f18)))
    (l18 : K.lookup f18 = some ⟨oc18, od18, .func (PySem.W.fnOf "copied" "copied" (defArgs s_copied) (defBody s_copied) (defScope s_copied) .none kV18 dc18 pm18 an18 cd18 ct18), sl18⟩)
    (c18 : PySem.W.codeIn K cd18 "copied" = true)
    (k18 : PySem.W.keepIn K (.ref f18) = true)
    (a19 : PySem.W.findIn K (.ref aD) "__init__" = some (some (.ref f19)))
    (i19 : PySem.W.isFn K (.ref f19) = true)
    (l19 : K.lookup f19 = some ⟨oc19, od19, .func (PySem.W.fnOf "__init__" "Desk.__init__" (defArgs s_Desk___init__) (defBody s_Desk___init__) (defScope s_Desk___init__) .none kV19 dc19 pm19 an19 cd19 ct19), sl19⟩)
    (c19 : PySem.W.codeIn K cd19 "Desk.__init__" = true)
    (k19 : PySem.W.keepIn K (.ref f19) = true)
    (a20 : PySem.W.nsIn K mainGlobals "_law_desk" = some (some (.ref f20)))
    (l20 : K.lookup f20 = some ⟨oc20, od20, .func (PySem.W.fnOf "_law_desk" "_law_desk" (defArgs s_l_desk) (defBody s_l_desk) (defScope s_l_desk) .none kV20 dc20 pm20 an20 cd20 ct20), sl20⟩)
    (c20 : PySem.W.codeIn K cd20 "_law_desk" = true)
    (k20 : PySem.W.keepIn K (.ref f20) = true)
    (a21 : PySem.W.nsIn K mainGlobals "_law_without" = some (some (.ref f21)))
    (l21 : K.lookup f21 = some ⟨oc21, od21, .func (PySem.W.fnOf "_law_without" "_law_without" (defArgs s_l_without) (defBody s_l_without) (defScope s_l_without) .none kV21 dc21 pm21 an21 cd21 ct21), sl21⟩)
    (c21 : PySem.W.codeIn K cd21 "_law_without" = true)
    (k21 : PySem.W.keepIn K (.ref f21) = true)
    (a22 : PySem.W.nsIn K mainGlobals "_law_viable" = some (some (.ref f22)))
    (l22 : K.lookup f22 = some ⟨oc22, od22, .func (PySem.W.fnOf "_law_viable" "_law_viable" (defArgs s_l_viable) (defBody s_l_viable) (defScope s_l_viable) .none kV22 dc22 pm22 an22 cd22 ct22), sl22⟩)
    (c22 : PySem.W.codeIn K cd22 "_law_viable" = true)
    (k22 : PySem.W.keepIn K (.ref f22) = true)
    (a23 : PySem.W.nsIn K mainGlobals "_law_own_rescues" = some (some (.ref f23)))
    (l23 : K.lookup f23 = some ⟨oc23, od23, .func (PySem.W.fnOf "_law_own_rescues" "_law_own_rescues" (defArgs s_l_own_rescues) (defBody s_l_own_rescues) (defScope s_l_own_rescues) .none kV23 dc23 pm23 an23 cd23 ct23), sl23⟩)
    (c23 : PySem.W.codeIn K cd23 "_law_own_rescues" = true)
    (k23 : PySem.W.keepIn K (.ref f23) = true)
    (a24 : PySem.W.nsIn K mainGlobals "check_desk" = some (some (.ref f24)))
    (l24 : K.lookup f24 = some ⟨oc24, od24, .func (PySem.W.fnOf "check_desk" "check_desk" (defArgs s_check_desk) (defBody s_check_desk) (defScope s_check_desk) .none kV24 dc24 pm24 an24 cd24 ct24), sl24⟩)
    (c24 : PySem.W.codeIn K cd24 "check_desk" = true)
    (k24 : PySem.W.keepIn K (.ref f24) = true)
    (a25 : PySem.W.nsIn K mainGlobals "words_at" = some (some (.ref f25)))
    (l25 : K.lookup f25 = some ⟨oc25, od25, .func (PySem.W.fnOf "words_at" "words_at" (defArgs s_words_at) (defBody s_words_at) (defScope s_words_at) .none kV25 dc25 pm25 an25 cd25 ct25), sl25⟩)
    (c25 : PySem.W.codeIn K cd25 "words_at" = true)
    (k25 : PySem.W.keepIn K (.ref f25) = true)
    (a26 : PySem.W.nsIn K mainGlobals "lots_of" = some (some (.ref f26)))
    (l26 : K.lookup f26 = some ⟨oc26, od26, .func (PySem.W.fnOf "lots_of" "lots_of" (defArgs s_lots_of) (defBody s_lots_of) (defScope s_lots_of) .none kV26 dc26 pm26 an26 cd26 ct26), sl26⟩)
    (c26 : PySem.W.codeIn K cd26 "lots_of" = true)
    (k26 : PySem.W.keepIn K (.ref f26) = true)
    (a27 : PySem.W.nsIn K mainGlobals "are_left" = some (some (.ref f27)))
    (l27 : K.lookup f27 = some ⟨oc27, od27, .func (PySem.W.fnOf "are_left" "are_left" (defArgs s_are_left) (defBody s_are_left) (defScope s_are_left) .none kV27 dc27 pm27 an27 cd27 ct27), sl27⟩)
    (c27 : PySem.W.codeIn K cd27 "are_left" = true)
    (k27 : PySem.W.keepIn K (.ref f27) = true)
    (a28 : PySem.W.nsIn K mainGlobals "droppable_from" = some (some (.ref f28)))
    (l28 : K.lookup f28 = some ⟨oc28, od28, .func (PySem.W.fnOf "droppable_from" "droppable_from" (defArgs s_droppable_from) (defBody s_droppable_from) (defScope s_droppable_from) .none kV28 dc28 pm28 an28 cd28 ct28), sl28⟩)
    (c28 : PySem.W.codeIn K cd28 "droppable_from" = true)
    (k28 : PySem.W.keepIn K (.ref f28) = true)
    (a29 : PySem.W.nsIn K mainGlobals "without" = some (some (.ref f29)))
    (l29 : K.lookup f29 = some ⟨oc29, od29, .func (PySem.W.fnOf "without" "without" (defArgs s_without) (defBody s_without) (defScope s_without) .none kV29 dc29 pm29 an29 cd29 ct29), sl29⟩)
    (c29 : PySem.W.codeIn K cd29 "without" = true)
    (k29 : PySem.W.keepIn K (.ref f29) = true)
    (a30 : PySem.W.nsIn K mainGlobals "ranked" = some (some (.ref f30)))
    (l30 : K.lookup f30 = some ⟨oc30, od30, .func (PySem.W.fnOf "ranked" "ranked" (defArgs s_ranked) (defBody s_ranked) (defScope s_ranked) .none kV30 dc30 pm30 an30 cd30 ct30), sl30⟩)
    (c30 : PySem.W.codeIn K cd30 "ranked" = true)
    (k30 : PySem.W.keepIn K (.ref f30) = true)
    (a31 : PySem.W.nsIn K mainGlobals "rounds" = some (some (.ref f31)))
    (l31 : K.lookup f31 = some ⟨oc31, od31, .func (PySem.W.fnOf "rounds" "rounds" (defArgs s_rounds) (defBody s_rounds) (defScope s_rounds) .none kV31 dc31 pm31 an31 cd31 ct31), sl31⟩)
    (c31 : PySem.W.codeIn K cd31 "rounds" = true)
    (k31 : PySem.W.keepIn K (.ref f31) = true)
    (a32 : PySem.W.nsIn K mainGlobals "ranks_of" = some (some (.ref f32)))
    (l32 : K.lookup f32 = some ⟨oc32, od32, .func (PySem.W.fnOf "ranks_of" "ranks_of" (defArgs s_ranks_of) (defBody s_ranks_of) (defScope s_ranks_of) .none kV32 dc32 pm32 an32 cd32 ct32), sl32⟩)
    (c32 : PySem.W.codeIn K cd32 "ranks_of" = true)
    (k32 : PySem.W.keepIn K (.ref f32) = true)
    (a33 : PySem.W.nsIn K mainGlobals "is_viable" = some (some (.ref f33)))
    (l33 : K.lookup f33 = some ⟨oc33, od33, .func (PySem.W.fnOf "is_viable" "is_viable" (defArgs s_is_viable) (defBody s_is_viable) (defScope s_is_viable) .none kV33 dc33 pm33 an33 cd33 ct33), sl33⟩)
    (c33 : PySem.W.codeIn K cd33 "is_viable" = true)
    (k33 : PySem.W.keepIn K (.ref f33) = true)
    (a34 : PySem.W.nsIn K mainGlobals "lies_in" = some (some (.ref f34)))
    (l34 : K.lookup f34 = some ⟨oc34, od34, .func (PySem.W.fnOf "lies_in" "lies_in" (defArgs s_lies_in) (defBody s_lies_in) (defScope s_lies_in) .none kV34 dc34 pm34 an34 cd34 ct34), sl34⟩)
    (c34 : PySem.W.codeIn K cd34 "lies_in" = true)
    (k34 : PySem.W.keepIn K (.ref f34) = true)
    (a35 : PySem.W.nsIn K mainGlobals "least_of" = some (some (.ref f35)))
    (l35 : K.lookup f35 = some ⟨oc35, od35, .func (PySem.W.fnOf "least_of" "least_of" (defArgs s_least_of) (defBody s_least_of) (defScope s_least_of) .none kV35 dc35 pm35 an35 cd35 ct35), sl35⟩)
    (c35 : PySem.W.codeIn K cd35 "least_of" = true)
    (k35 : PySem.W.keepIn K (.ref f35) = true)
    (a36 : PySem.W.nsIn K mainGlobals "rescues" = some (some (.ref f36)))
    (l36 : K.lookup f36 = some ⟨oc36, od36, .func (PySem.W.fnOf "rescues" "rescues" (defArgs s_rescues) (defBody s_rescues) (defScope s_rescues) .none kV36 dc36 pm36 an36 cd36 ct36), sl36⟩)
    (c36 : PySem.W.codeIn K cd36 "rescues" = true)
    (k36 : PySem.W.keepIn K (.ref f36) = true)
    (a37 : PySem.W.nsIn K mainGlobals "_law_exact" = some (some (.ref f37)))
    (l37 : K.lookup f37 = some ⟨oc37, od37, .func (PySem.W.fnOf "_law_exact" "_law_exact" (defArgs s_l_exact) (defBody s_l_exact) (defScope s_l_exact) .none kV37 dc37 pm37 an37 cd37 ct37), sl37⟩)
    (c37 : PySem.W.codeIn K cd37 "_law_exact" = true)
    (k37 : PySem.W.keepIn K (.ref f37) = true)
    (a38 : PySem.W.nsIn K mainGlobals "is_word_at" = some (some (.ref f38)))
    (l38 : K.lookup f38 = some ⟨oc38, od38, .func (PySem.W.fnOf "is_word_at" "is_word_at" (defArgs s_is_word_at) (defBody s_is_word_at) (defScope s_is_word_at) .none kV38 dc38 pm38 an38 cd38 ct38), sl38⟩)
    (c38 : PySem.W.codeIn K cd38 "is_word_at" = true)
    (k38 : PySem.W.keepIn K (.ref f38) = true)
    (a39 : PySem.W.nsIn K mainGlobals "is_ascending" = some (some (.ref f39)))
    (l39 : K.lookup f39 = some ⟨oc39, od39, .func (PySem.W.fnOf "is_ascending" "is_ascending" (defArgs s_is_ascending) (defBody s_is_ascending) (defScope s_is_ascending) .none kV39 dc39 pm39 an39 cd39 ct39), sl39⟩)
    (c39 : PySem.W.codeIn K cd39 "is_ascending" = true)
    (k39 : PySem.W.keepIn K (.ref f39) = true)
    (a40 : PySem.W.nsIn K mainGlobals "is_list_of" = some (some (.ref f40)))
    (l40 : K.lookup f40 = some ⟨oc40, od40, .func (PySem.W.fnOf "is_list_of" "is_list_of" (defArgs s_is_list_of) (defBody s_is_list_of) (defScope s_is_list_of) .none kV40 dc40 pm40 an40 cd40 ct40), sl40⟩)
    (c40 : PySem.W.codeIn K cd40 "is_list_of" = true)
    (k40 : PySem.W.keepIn K (.ref f40) = true)
    (a41 : PySem.W.nsIn K mainGlobals "check_lot" = some (some (.ref f41)))
    (l41 : K.lookup f41 = some ⟨oc41, od41, .func (PySem.W.fnOf "check_lot" "check_lot" (defArgs s_check_lot) (defBody s_check_lot) (defScope s_check_lot) .none kV41 dc41 pm41 an41 cd41 ct41), sl41⟩)
    (c41 : PySem.W.codeIn K cd41 "check_lot" = true)
    (k41 : PySem.W.keepIn K (.ref f41) = true)
    (a42 : PySem.W.nsIn K mainGlobals "dropped" = some (some (.ref f42)))
    (l42 : K.lookup f42 = some ⟨oc42, od42, .func (PySem.W.fnOf "dropped" "dropped" (defArgs s_dropped) (defBody s_dropped) (defScope s_dropped) .none kV42 dc42 pm42 an42 cd42 ct42), sl42⟩)
    (c42 : PySem.W.codeIn K cd42 "dropped" = true)
    (k42 : PySem.W.keepIn K (.ref f42) = true)
    (a43 : PySem.W.nsIn K mainGlobals "has_partner" = some (some (.ref f43)))
    (l43 : K.lookup f43 = some ⟨oc43, od43, .func (PySem.W.fnOf "has_partner" "has_partner" (defArgs s_has_partner) (defBody s_has_partner) (defScope s_has_partner) .none kV43 dc43 pm43 an43 cd43 ct43), sl43⟩)
    (c43 : PySem.W.codeIn K cd43 "has_partner" = true)
    (k43 : PySem.W.keepIn K (.ref f43) = true)
    (a44 : PySem.W.findIn K (.ref aD) "start" = some (some (.ref f44)))
    (i44 : PySem.W.isFn K (.ref f44) = true)
    (l44 : K.lookup f44 = some ⟨oc44, od44, .func (PySem.W.fnOf "start" "Desk.start" (defArgs s_Desk_start) (defBody s_Desk_start) (defScope s_Desk_start) .none kV44 dc44 pm44 an44 cd44 ct44), sl44⟩)
    (c44 : PySem.W.codeIn K cd44 "Desk.start" = true)
    (k44 : PySem.W.keepIn K (.ref f44) = true)
    (a45 : PySem.W.findIn K (.ref aD) "book" = some (some (.ref f45)))
    (i45 : PySem.W.isFn K (.ref f45) = true)
    (l45 : K.lookup f45 = some ⟨oc45, od45, .func (PySem.W.fnOf "book" "Desk.book" (defArgs s_Desk_book) (defBody s_Desk_book) (defScope s_Desk_book) .none kV45 dc45 pm45 an45 cd45 ct45), sl45⟩)
    (c45 : PySem.W.codeIn K cd45 "Desk.book" = true)
    (k45 : PySem.W.keepIn K (.ref f45) = true)
    (a46 : PySem.W.findIn K (.ref aD) "__eq__" = some (some (.ref f46)))
    (i46 : PySem.W.isFn K (.ref f46) = true)
    (l46 : K.lookup f46 = some ⟨oc46, od46, .func (PySem.W.fnOf "__eq__" "Desk.__eq__" (defArgs s_Desk___eq__) (defBody s_Desk___eq__) (defScope s_Desk___eq__) .none kV46 dc46 pm46 an46 cd46 ct46), sl46⟩)
    (c46 : PySem.W.codeIn K cd46 "Desk.__eq__" = true)
    (k46 : PySem.W.keepIn K (.ref f46) = true)
    (a47 : PySem.W.nsIn K mainGlobals "_law_stays" = some (some (.ref f47)))
    (l47 : K.lookup f47 = some ⟨oc47, od47, .func (PySem.W.fnOf "_law_stays" "_law_stays" (defArgs s_l_stays) (defBody s_l_stays) (defScope s_l_stays) .none kV47 dc47 pm47 an47 cd47 ct47), sl47⟩)
    (c47 : PySem.W.codeIn K cd47 "_law_stays" = true)
    (k47 : PySem.W.keepIn K (.ref f47) = true)
    (a48 : PySem.W.nsIn K mainGlobals "_law_turned_book" = some (some (.ref f48)))
    (l48 : K.lookup f48 = some ⟨oc48, od48, .func (PySem.W.fnOf "_law_turned_book" "_law_turned_book" (defArgs s_l_turned_book) (defBody s_l_turned_book) (defScope s_l_turned_book) .none kV48 dc48 pm48 an48 cd48 ct48), sl48⟩)
    (c48 : PySem.W.codeIn K cd48 "_law_turned_book" = true)
    (k48 : PySem.W.keepIn K (.ref f48) = true)
    (a49 : PySem.W.nsIn K mainGlobals "_law_rescues_right" = some (some (.ref f49)))
    (l49 : K.lookup f49 = some ⟨oc49, od49, .func (PySem.W.fnOf "_law_rescues_right" "_law_rescues_right" (defArgs s_l_rescues_right) (defBody s_l_rescues_right) (defScope s_l_rescues_right) .none kV49 dc49 pm49 an49 cd49 ct49), sl49⟩)
    (c49 : PySem.W.codeIn K cd49 "_law_rescues_right" = true)
    (k49 : PySem.W.keepIn K (.ref f49) = true)
    (a50 : PySem.W.nsIn K mainGlobals "law" = some (some (.ref f50)))
    (l50 : K.lookup f50 = some ⟨oc50, od50, .func (PySem.W.fnOf "law" "law" (defArgs s_law) (defBody s_law) (defScope s_law) .none kV50 dc50 pm50 an50 cd50 ct50), sl50⟩)
    (c50 : PySem.W.codeIn K cd50 "law" = true)
    (k50 : PySem.W.keepIn K (.ref f50) = true) : Facts w K mg aD where
  T := ⟨PySem.W.mg_none_of X G z_all, PySem.W.mg_none_of X G z_any, PySem.W.mg_none_of X G z_bool, PySem.W.mg_none_of X G z_dict, PySem.W.mg_none_of X G z_int, PySem.W.mg_none_of X G z_isinstance, PySem.W.mg_none_of X G z_len, PySem.W.mg_none_of X G z_list, PySem.W.mg_none_of X G z_max, PySem.W.mg_none_of X G z_min, PySem.W.mg_none_of X G z_range, PySem.W.mg_none_of X G z_sorted, PySem.W.mg_none_of X G z_str, PySem.W.mg_none_of X G z_sum, PySem.W.mg_none_of X G z_tuple, PySem.W.mg_none_of X G z_zip, n_first, n_rows, ⟨tL, PySem.W.mg_of X G aL⟩, ⟨⟨c_pg, c_hd, c_po, c_sa⟩, o_ha, o_hn, o_tk, o_hm, o_n0, o_n1, o_n2, o_n3, o_n4, o_n5, o_n6⟩, PySem.W.mg_of X G aC, ⟨dT, eT, nT, PySem.W.mg_of X G aT, ⟨lT, litT, lowT⟩, fun z hz => by
    simp only [kindS, List.mem_cons, List.not_mem_nil, or_false] at hz
    rcases hz with rfl | rfl | rfl
    · exact ⟨_, uT1e⟩
    · exact ⟨_, uT2e⟩
    · exact ⟨_, uT3e⟩⟩, ⟨c_pg, c_hd, c_po, c_sa⟩⟩
  hmk := k_mk
  kc := k_kc
  d_l_purse := ⟨f1, _, fun_mk (st := s_l_purse) l1 c1 k1, PySem.W.mg_of X G a1, (fun_mk (st := s_l_purse) l1 c1 k1).binds (ps := ["_law_script", "_law_at"]) (fun _ _ _ _ _ _ us hl => match us, hl with | [_, _], _ => rfl)⟩
  d_l_purses := ⟨f2, _, fun_mk (st := s_l_purses) l2 c2 k2, PySem.W.mg_of X G a2, (fun_mk (st := s_l_purses) l2 c2 k2).binds (ps := ["_law_script", "_law_few"]) (fun _ _ _ _ _ _ us hl => match us, hl with | [_, _], _ => rfl)⟩
  d_l_mixed := ⟨f3, _, fun_mk (st := s_l_mixed) l3 c3 k3, PySem.W.mg_of X G a3, (fun_mk (st := s_l_mixed) l3 c3 k3).binds (ps := ["_law_seed", "_law_turn", "_law_at"]) (fun _ _ _ _ _ _ us hl => match us, hl with | [_, _, _], _ => rfl)⟩
  d_l_draw := ⟨f4, _, fun_mk (st := s_l_draw) l4 c4 k4, PySem.W.mg_of X G a4, (fun_mk (st := s_l_draw) l4 c4 k4).binds (ps := ["_law_purse_here", "_law_many"]) (fun _ _ _ _ _ _ us hl => match us, hl with | [_, _], _ => rfl)⟩
  d_l_word := ⟨f5, _, fun_mk (st := s_l_word) l5 c5 k5, PySem.W.mg_of X G a5, (fun_mk (st := s_l_word) l5 c5 k5).binds (ps := ["_law_purse_here"]) (fun _ _ _ _ _ _ us hl => match us, hl with | [_], _ => rfl)⟩
  d_l_words := ⟨f6, _, fun_mk (st := s_l_words) l6 c6 k6, PySem.W.mg_of X G a6, (fun_mk (st := s_l_words) l6 c6 k6).binds (ps := ["_law_purse_here", "_law_many"]) (fun _ _ _ _ _ _ us hl => match us, hl with | [_, _], _ => rfl)⟩
  d_l_shuffled := ⟨f7, _, fun_mk (st := s_l_shuffled) l7 c7 k7, PySem.W.mg_of X G a7, (fun_mk (st := s_l_shuffled) l7 c7 k7).binds (ps := ["_law_purse_here", "_law_some"]) (fun _ _ _ _ _ _ us hl => match us, hl with | [_, _], _ => rfl)⟩
  d_l_pool := ⟨f8, _, fun_mk (st := s_l_pool) l8 c8 k8, PySem.W.mg_of X G a8, (fun_mk (st := s_l_pool) l8 c8 k8).binds (ps := ["_law_purse_here"]) (fun _ _ _ _ _ _ us hl => match us, hl with | [_], _ => rfl)⟩
  d_l_one_of := ⟨f9, _, fun_mk (st := s_l_one_of) l9 c9 k9, PySem.W.mg_of X G a9, (fun_mk (st := s_l_one_of) l9 c9 k9).binds (ps := ["_law_purse_here", "_law_some"]) (fun _ _ _ _ _ _ us hl => match us, hl with | [_, _], _ => rfl)⟩
  d_l_turns := ⟨f10, _, fun_mk (st := s_l_turns) l10 c10 k10, PySem.W.mg_of X G a10, (fun_mk (st := s_l_turns) l10 c10 k10).binds (ps := ["_law_purse_here", "_law_states", "_law_words_here", "_law_at", "_law_top"]) (fun _ _ _ _ _ _ us hl => match us, hl with | [_, _, _, _, _], _ => rfl)⟩
  d_l_world := ⟨f11, _, fun_mk (st := s_l_world) l11 c11 k11, PySem.W.mg_of X G a11, (fun_mk (st := s_l_world) l11 c11 k11).binds (ps := ["_law_purse_here", "_law_many", "_law_words_here", "_law_top"]) (fun _ _ _ _ _ _ us hl => match us, hl with | [_, _, _, _], _ => rfl)⟩
  d_l_shape := ⟨f12, _, fun_mk (st := s_l_shape) l12 c12 k12, PySem.W.mg_of X G a12, (fun_mk (st := s_l_shape) l12 c12 k12).binds (ps := ["_law_purse_here", "_law_words_here"]) (fun _ _ _ _ _ _ us hl => match us, hl with | [_, _], _ => rfl)⟩
  d_l_row_of := ⟨f13, _, fun_mk (st := s_l_row_of) l13 c13 k13, PySem.W.mg_of X G a13, (fun_mk (st := s_l_row_of) l13 c13 k13).binds (ps := ["_law_purse_here", "_law_top"]) (fun _ _ _ _ _ _ us hl => match us, hl with | [_, _], _ => rfl)⟩
  d_l_said_words := ⟨f14, _, fun_mk (st := s_l_said_words) l14 c14 k14, PySem.W.mg_of X G a14, (fun_mk (st := s_l_said_words) l14 c14 k14).binds (ps := ["_law_world_here"]) (fun _ _ _ _ _ _ us hl => match us, hl with | [_], _ => rfl)⟩
  d_is_spelt := ⟨f15, _, fun_mk (st := s_is_spelt) l15 c15 k15, PySem.W.mg_of X G a15, (fun_mk (st := s_is_spelt) l15 c15 k15).binds (ps := ["value"]) (fun _ _ _ _ _ _ us hl => match us, hl with | [_], _ => rfl)⟩
  d_is_row := ⟨f16, _, fun_mk (st := s_is_row) l16 c16 k16, PySem.W.mg_of X G a16, (fun_mk (st := s_is_row) l16 c16 k16).binds (ps := ["value"]) (fun _ _ _ _ _ _ us hl => match us, hl with | [_], _ => rfl)⟩
  d_is_book := ⟨f17, _, fun_mk (st := s_is_book) l17 c17 k17, PySem.W.mg_of X G a17, (fun_mk (st := s_is_book) l17 c17 k17).binds (ps := ["value"]) (fun _ _ _ _ _ _ us hl => match us, hl with | [_], _ => rfl)⟩
  d_copied := ⟨f18, _, fun_mk (st := s_copied) l18 c18 k18, PySem.W.mg_of X G a18, (fun_mk (st := s_copied) l18 c18 k18).binds (ps := ["row"]) (fun _ _ _ _ _ _ us hl => match us, hl with | [_], _ => rfl)⟩
  d_Desk___init__ := ⟨f19, _, fun_mk (st := s_Desk___init__) l19 c19 k19, ⟨a19, i19, k19⟩, (fun_mk (st := s_Desk___init__) l19 c19 k19).binds (ps := ["self", "book", "start"]) (fun _ _ _ _ _ _ us hl => match us, hl with | [_, _, _], _ => rfl)⟩
  d_l_desk := ⟨f20, _, fun_mk (st := s_l_desk) l20 c20 k20, PySem.W.mg_of X G a20, (fun_mk (st := s_l_desk) l20 c20 k20).binds (ps := ["_law_world_here"]) (fun _ _ _ _ _ _ us hl => match us, hl with | [_], _ => rfl)⟩
  d_l_without := ⟨f21, _, fun_mk (st := s_l_without) l21 c21 k21, PySem.W.mg_of X G a21, (fun_mk (st := s_l_without) l21 c21 k21).binds (ps := ["_law_world_here", "_law_lot"]) (fun _ _ _ _ _ _ us hl => match us, hl with | [_, _], _ => rfl)⟩
  d_l_viable := ⟨f22, _, fun_mk (st := s_l_viable) l22 c22 k22, PySem.W.mg_of X G a22, (fun_mk (st := s_l_viable) l22 c22 k22).binds (ps := ["_law_world_here"]) (fun _ _ _ _ _ _ us hl => match us, hl with | [_], _ => rfl)⟩
  d_l_own_rescues := ⟨f23, _, fun_mk (st := s_l_own_rescues) l23 c23 k23, PySem.W.mg_of X G a23, (fun_mk (st := s_l_own_rescues) l23 c23 k23).binds (ps := ["_law_world_here"]) (fun _ _ _ _ _ _ us hl => match us, hl with | [_], _ => rfl)⟩
  d_check_desk := ⟨f24, _, fun_mk (st := s_check_desk) l24 c24 k24, PySem.W.mg_of X G a24, (fun_mk (st := s_check_desk) l24 c24 k24).binds (ps := ["value"]) (fun _ _ _ _ _ _ us hl => match us, hl with | [_], _ => rfl)⟩
  d_words_at := ⟨f25, _, fun_mk (st := s_words_at) l25 c25 k25, PySem.W.mg_of X G a25, (fun_mk (st := s_words_at) l25 c25 k25).binds (ps := ["desk", "kind"]) (fun _ _ _ _ _ _ us hl => match us, hl with | [_, _], _ => rfl)⟩
  d_lots_of := ⟨f26, _, fun_mk (st := s_lots_of) l26 c26 k26, PySem.W.mg_of X G a26, (fun_mk (st := s_lots_of) l26 c26 k26).binds (ps := ["things"]) (fun _ _ _ _ _ _ us hl => match us, hl with | [_], _ => rfl)⟩
  d_are_left := ⟨f27, _, fun_mk (st := s_are_left) l27 c27 k27, PySem.W.mg_of X G a27, (fun_mk (st := s_are_left) l27 c27 k27).binds (ps := ["desk", "some"]) (fun _ _ _ _ _ _ us hl => match us, hl with | [_, _], _ => rfl)⟩
  d_droppable_from := ⟨f28, _, fun_mk (st := s_droppable_from) l28 c28 k28, PySem.W.mg_of X G a28, (fun_mk (st := s_droppable_from) l28 c28 k28).binds (ps := ["desk"]) (fun _ _ _ _ _ _ us hl => match us, hl with | [_], _ => rfl)⟩
  d_without := ⟨f29, _, fun_mk (st := s_without) l29 c29 k29, PySem.W.mg_of X G a29, (fun_mk (st := s_without) l29 c29 k29).binds (ps := ["desk", "some"]) (fun _ _ _ _ _ _ us hl => match us, hl with | [_, _], _ => rfl)⟩
  d_ranked := ⟨f30, _, fun_mk (st := s_ranked) l30 c30 k30, PySem.W.mg_of X G a30, (fun_mk (st := s_ranked) l30 c30 k30).binds (ps := ["rows", "left"]) (fun _ _ _ _ _ _ us hl => match us, hl with | [_, _], _ => rfl)⟩
  d_rounds := ⟨f31, _, fun_mk (st := s_rounds) l31 c31 k31, PySem.W.mg_of X G a31, (fun_mk (st := s_rounds) l31 c31 k31).binds (ps := ["rows"]) (fun _ _ _ _ _ _ us hl => match us, hl with | [_], _ => rfl)⟩
  d_ranks_of := ⟨f32, _, fun_mk (st := s_ranks_of) l32 c32 k32, PySem.W.mg_of X G a32, (fun_mk (st := s_ranks_of) l32 c32 k32).binds (ps := ["desk"]) (fun _ _ _ _ _ _ us hl => match us, hl with | [_], _ => rfl)⟩
  d_is_viable := ⟨f33, _, fun_mk (st := s_is_viable) l33 c33 k33, PySem.W.mg_of X G a33, (fun_mk (st := s_is_viable) l33 c33 k33).binds (ps := ["desk"]) (fun _ _ _ _ _ _ us hl => match us, hl with | [_], _ => rfl)⟩
  d_lies_in := ⟨f34, _, fun_mk (st := s_lies_in) l34 c34 k34, PySem.W.mg_of X G a34, (fun_mk (st := s_lies_in) l34 c34 k34).binds (ps := ["lot", "other"]) (fun _ _ _ _ _ _ us hl => match us, hl with | [_, _], _ => rfl)⟩
  d_least_of := ⟨f35, _, fun_mk (st := s_least_of) l35 c35 k35, PySem.W.mg_of X G a35, (fun_mk (st := s_least_of) l35 c35 k35).binds (ps := ["lots"]) (fun _ _ _ _ _ _ us hl => match us, hl with | [_], _ => rfl)⟩
  d_rescues := ⟨f36, _, fun_mk (st := s_rescues) l36 c36 k36, PySem.W.mg_of X G a36, (fun_mk (st := s_rescues) l36 c36 k36).binds (ps := ["desk"]) (fun _ _ _ _ _ _ us hl => match us, hl with | [_], _ => rfl)⟩
  d_l_exact := ⟨f37, _, fun_mk (st := s_l_exact) l37 c37 k37, PySem.W.mg_of X G a37, (fun_mk (st := s_l_exact) l37 c37 k37).binds (ps := ["_law_mine", "_law_theirs"]) (fun _ _ _ _ _ _ us hl => match us, hl with | [_, _], _ => rfl)⟩
  d_is_word_at := ⟨f38, _, fun_mk (st := s_is_word_at) l38 c38 k38, PySem.W.mg_of X G a38, (fun_mk (st := s_is_word_at) l38 c38 k38).binds (ps := ["value"]) (fun _ _ _ _ _ _ us hl => match us, hl with | [_], _ => rfl)⟩
  d_is_ascending := ⟨f39, _, fun_mk (st := s_is_ascending) l39 c39 k39, PySem.W.mg_of X G a39, (fun_mk (st := s_is_ascending) l39 c39 k39).binds (ps := ["values"]) (fun _ _ _ _ _ _ us hl => match us, hl with | [_], _ => rfl)⟩
  d_is_list_of := ⟨f40, _, fun_mk (st := s_is_list_of) l40 c40 k40, PySem.W.mg_of X G a40, (fun_mk (st := s_is_list_of) l40 c40 k40).binds (ps := ["desk", "kind", "value"]) (fun _ _ _ _ _ _ us hl => match us, hl with | [_, _, _], _ => rfl)⟩
  d_check_lot := ⟨f41, _, fun_mk (st := s_check_lot) l41 c41 k41, PySem.W.mg_of X G a41, (fun_mk (st := s_check_lot) l41 c41 k41).binds (ps := ["desk", "lot"]) (fun _ _ _ _ _ _ us hl => match us, hl with | [_, _], _ => rfl)⟩
  d_dropped := ⟨f42, _, fun_mk (st := s_dropped) l42 c42 k42, PySem.W.mg_of X G a42, (fun_mk (st := s_dropped) l42 c42 k42).binds (ps := ["desk", "lot"]) (fun _ _ _ _ _ _ us hl => match us, hl with | [_, _], _ => rfl)⟩
  d_has_partner := ⟨f43, _, fun_mk (st := s_has_partner) l43 c43 k43, PySem.W.mg_of X G a43, (fun_mk (st := s_has_partner) l43 c43 k43).binds (ps := ["desk"]) (fun _ _ _ _ _ _ us hl => match us, hl with | [_], _ => rfl)⟩
  d_Desk_start := ⟨f44, _, fun_mk (st := s_Desk_start) l44 c44 k44, ⟨a44, i44, k44⟩, (fun_mk (st := s_Desk_start) l44 c44 k44).binds (ps := ["self"]) (fun _ _ _ _ _ _ us hl => match us, hl with | [_], _ => rfl)⟩
  d_Desk_book := ⟨f45, _, fun_mk (st := s_Desk_book) l45 c45 k45, ⟨a45, i45, k45⟩, (fun_mk (st := s_Desk_book) l45 c45 k45).binds (ps := ["self"]) (fun _ _ _ _ _ _ us hl => match us, hl with | [_], _ => rfl)⟩
  d_Desk___eq__ := ⟨f46, _, fun_mk (st := s_Desk___eq__) l46 c46 k46, ⟨a46, i46, k46⟩, (fun_mk (st := s_Desk___eq__) l46 c46 k46).binds (ps := ["self", "other"]) (fun _ _ _ _ _ _ us hl => match us, hl with | [_, _], _ => rfl)⟩
  d_l_stays := ⟨f47, _, fun_mk (st := s_l_stays) l47 c47 k47, PySem.W.mg_of X G a47, (fun_mk (st := s_l_stays) l47 c47 k47).binds (ps := ["_law_world_here", "_law_desk_here"]) (fun _ _ _ _ _ _ us hl => match us, hl with | [_, _], _ => rfl)⟩
  d_l_turned_book := ⟨f48, _, fun_mk (st := s_l_turned_book) l48 c48 k48, PySem.W.mg_of X G a48, (fun_mk (st := s_l_turned_book) l48 c48 k48).binds (ps := ["_law_world_here"]) (fun _ _ _ _ _ _ us hl => match us, hl with | [_], _ => rfl)⟩
  d_l_rescues_right := ⟨f49, _, fun_mk (st := s_l_rescues_right) l49 c49 k49, PySem.W.mg_of X G a49, (fun_mk (st := s_l_rescues_right) l49 c49 k49).binds (ps := ["_law_purse_here", "_law_world_here"]) (fun _ _ _ _ _ _ us hl => match us, hl with | [_, _], _ => rfl)⟩
  d_law := ⟨f50, _, fun_mk (st := s_law) l50 c50 k50, PySem.W.mg_of X G a50, (fun_mk (st := s_law) l50 c50 k50).binds (ps := ["_law_script"]) (fun _ _ _ _ _ _ us hl => match us, hl with | [_], _ => rfl)⟩
end DL
/-! ## KA -/
namespace DL
open PySem PySem.Spec PyProof.Rows L2
section
variable {P : Program} {w : World} {K : PySem.W.Frag} {mg : Str → Option Value} {base : Heap} {a_Desk : Addr}
theorem g_l_mixed (FF : Facts w K mg a_Desk)  : FnD P w K mg base 3 "_law_mixed" (sp_l_mixed a_Desk) := by
  obtain ⟨f, fd, F, hm, hb⟩ := FF.d_l_mixed
  exact fnD_of F sc_l_mixed hm hb (fun ss n kk h => by first | (obtain ⟨rfl, _⟩ := h; rfl) | (obtain ⟨_, rfl, _⟩ := h; rfl) | (obtain ⟨_, _, rfl, _⟩ := h; rfl) | (obtain ⟨_, _, _, rfl, _⟩ := h; rfl) | (obtain ⟨_, _, _, _, rfl, _⟩ := h; rfl)) (fun cdv A outer s H E pu hr => d_l_mixed FF.T  cdv A outer s H E pu hr) (s_mixed a_Desk)
theorem g_l_draw (FF : Facts w K mg a_Desk) (G_l_mixed : FnD P w K mg base 3 "_law_mixed" (sp_l_mixed a_Desk)) : FnD P w K mg base 5 "_law_draw" (sp_l_draw a_Desk) := by
  obtain ⟨f, fd, F, hm, hb⟩ := FF.d_l_draw
  exact fnD_of F sc_l_draw hm hb (fun ss n kk h => by first | (obtain ⟨rfl, _⟩ := h; rfl) | (obtain ⟨_, rfl, _⟩ := h; rfl) | (obtain ⟨_, _, rfl, _⟩ := h; rfl) | (obtain ⟨_, _, _, rfl, _⟩ := h; rfl) | (obtain ⟨_, _, _, _, rfl, _⟩ := h; rfl)) (fun cdv A outer s H E pu hr => d_l_draw FF.T G_l_mixed cdv A outer s H E pu hr) (s_draw a_Desk)
theorem g_l_word (FF : Facts w K mg a_Desk) (G_l_draw : FnD P w K mg base 5 "_law_draw" (sp_l_draw a_Desk)) : FnD P w K mg base 7 "_law_word" (sp_l_word a_Desk) := by
  obtain ⟨f, fd, F, hm, hb⟩ := FF.d_l_word
  exact fnD_of F sc_l_word hm hb (fun ss n kk h => by first | (obtain ⟨rfl, _⟩ := h; rfl) | (obtain ⟨_, rfl, _⟩ := h; rfl) | (obtain ⟨_, _, rfl, _⟩ := h; rfl) | (obtain ⟨_, _, _, rfl, _⟩ := h; rfl) | (obtain ⟨_, _, _, _, rfl, _⟩ := h; rfl)) (fun cdv A outer s H E pu hr => d_l_word FF.T G_l_draw cdv A outer s H E pu hr) (s_word a_Desk)
theorem g_l_words (FF : Facts w K mg a_Desk) (G_l_word : FnD P w K mg base 7 "_law_word" (sp_l_word a_Desk)) (G_l_draw : FnD P w K mg base 5 "_law_draw" (sp_l_draw a_Desk)) : FnD P w K mg base 9 "_law_words" (sp_l_words a_Desk) := by
  obtain ⟨f, fd, F, hm, hb⟩ := FF.d_l_words
  exact fnD_of F sc_l_words hm hb (fun ss n kk h => by first | (obtain ⟨rfl, _⟩ := h; rfl) | (obtain ⟨_, rfl, _⟩ := h; rfl) | (obtain ⟨_, _, rfl, _⟩ := h; rfl) | (obtain ⟨_, _, _, rfl, _⟩ := h; rfl) | (obtain ⟨_, _, _, _, rfl, _⟩ := h; rfl)) (fun cdv A outer s H E pu hr => d_l_words FF.T G_l_word G_l_draw cdv A outer s H E pu hr) (s_words a_Desk)
theorem g_l_shuffled (FF : Facts w K mg a_Desk) (G_l_draw : FnD P w K mg base 5 "_law_draw" (sp_l_draw a_Desk)) : FnD P w K mg base 7 "_law_shuffled" (sp_l_shuffled a_Desk) := by
  obtain ⟨f, fd, F, hm, hb⟩ := FF.d_l_shuffled
  exact fnD_of F sc_l_shuffled hm hb (fun ss n kk h => by first | (obtain ⟨rfl, _⟩ := h; rfl) | (obtain ⟨_, rfl, _⟩ := h; rfl) | (obtain ⟨_, _, rfl, _⟩ := h; rfl) | (obtain ⟨_, _, _, rfl, _⟩ := h; rfl) | (obtain ⟨_, _, _, _, rfl, _⟩ := h; rfl)) (fun cdv A outer s H E pu hr => d_l_shuffled FF.T G_l_draw cdv A outer s H E pu hr) (s_shuffled a_Desk)
theorem g_l_pool (FF : Facts w K mg a_Desk) (G_l_words : FnD P w K mg base 9 "_law_words" (sp_l_words a_Desk)) (G_l_draw : FnD P w K mg base 5 "_law_draw" (sp_l_draw a_Desk)) (G_l_shuffled : FnD P w K mg base 7 "_law_shuffled" (sp_l_shuffled a_Desk)) : FnD P w K mg base 11 "_law_pool" (sp_l_pool a_Desk) := by
  obtain ⟨f, fd, F, hm, hb⟩ := FF.d_l_pool
  exact fnD_of F sc_l_pool hm hb (fun ss n kk h => by first | (obtain ⟨rfl, _⟩ := h; rfl) | (obtain ⟨_, rfl, _⟩ := h; rfl) | (obtain ⟨_, _, rfl, _⟩ := h; rfl) | (obtain ⟨_, _, _, rfl, _⟩ := h; rfl) | (obtain ⟨_, _, _, _, rfl, _⟩ := h; rfl)) (fun cdv A outer s H E pu hr => d_l_pool FF.T G_l_words G_l_draw G_l_shuffled cdv A outer s H E pu hr) (s_pool a_Desk)
theorem g_l_one_of (FF : Facts w K mg a_Desk) (G_l_draw : FnD P w K mg base 5 "_law_draw" (sp_l_draw a_Desk)) : FnD P w K mg base 7 "_law_one_of" (sp_l_one_of a_Desk) := by
  obtain ⟨f, fd, F, hm, hb⟩ := FF.d_l_one_of
  exact fnD_of F sc_l_one_of hm hb (fun ss n kk h => by first | (obtain ⟨rfl, _⟩ := h; rfl) | (obtain ⟨_, rfl, _⟩ := h; rfl) | (obtain ⟨_, _, rfl, _⟩ := h; rfl) | (obtain ⟨_, _, _, rfl, _⟩ := h; rfl) | (obtain ⟨_, _, _, _, rfl, _⟩ := h; rfl)) (fun cdv A outer s H E pu hr => d_l_one_of FF.T G_l_draw cdv A outer s H E pu hr) (s_one_of a_Desk)
theorem g_l_turns (FF : Facts w K mg a_Desk) (G_l_draw : FnD P w K mg base 5 "_law_draw" (sp_l_draw a_Desk)) (G_l_shuffled : FnD P w K mg base 7 "_law_shuffled" (sp_l_shuffled a_Desk)) (G_l_one_of : FnD P w K mg base 7 "_law_one_of" (sp_l_one_of a_Desk)) : FnD P w K mg base 9 "_law_turns" (sp_l_turns a_Desk) := by
  obtain ⟨f, fd, F, hm, hb⟩ := FF.d_l_turns
  exact fnD_of F sc_l_turns hm hb (fun ss n kk h => by first | (obtain ⟨rfl, _⟩ := h; rfl) | (obtain ⟨_, rfl, _⟩ := h; rfl) | (obtain ⟨_, _, rfl, _⟩ := h; rfl) | (obtain ⟨_, _, _, rfl, _⟩ := h; rfl) | (obtain ⟨_, _, _, _, rfl, _⟩ := h; rfl)) (fun cdv A outer s H E pu hr => d_l_turns FF.T G_l_draw G_l_shuffled G_l_one_of cdv A outer s H E pu hr) (s_turns a_Desk)
theorem g_l_world (FF : Facts w K mg a_Desk) (G_l_draw : FnD P w K mg base 5 "_law_draw" (sp_l_draw a_Desk)) (G_l_words : FnD P w K mg base 9 "_law_words" (sp_l_words a_Desk)) (G_l_shuffled : FnD P w K mg base 7 "_law_shuffled" (sp_l_shuffled a_Desk)) (G_l_turns : FnD P w K mg base 9 "_law_turns" (sp_l_turns a_Desk)) : FnD P w K mg base 11 "_law_world" (sp_l_world a_Desk) := by
  obtain ⟨f, fd, F, hm, hb⟩ := FF.d_l_world
  exact fnD_of F sc_l_world hm hb (fun ss n kk h => by first | (obtain ⟨rfl, _⟩ := h; rfl) | (obtain ⟨_, rfl, _⟩ := h; rfl) | (obtain ⟨_, _, rfl, _⟩ := h; rfl) | (obtain ⟨_, _, _, rfl, _⟩ := h; rfl) | (obtain ⟨_, _, _, _, rfl, _⟩ := h; rfl)) (fun cdv A outer s H E pu hr => d_l_world FF.T G_l_draw G_l_words G_l_shuffled G_l_turns cdv A outer s H E pu hr) (s_world a_Desk)
theorem g_l_shape (FF : Facts w K mg a_Desk) (G_l_draw : FnD P w K mg base 5 "_law_draw" (sp_l_draw a_Desk)) (G_l_words : FnD P w K mg base 9 "_law_words" (sp_l_words a_Desk)) : FnD P w K mg base 11 "_law_shape" (sp_l_shape a_Desk) := by
  obtain ⟨f, fd, F, hm, hb⟩ := FF.d_l_shape
  exact fnD_of F sc_l_shape hm hb (fun ss n kk h => by first | (obtain ⟨rfl, _⟩ := h; rfl) | (obtain ⟨_, rfl, _⟩ := h; rfl) | (obtain ⟨_, _, rfl, _⟩ := h; rfl) | (obtain ⟨_, _, _, rfl, _⟩ := h; rfl) | (obtain ⟨_, _, _, _, rfl, _⟩ := h; rfl)) (fun cdv A outer s H E pu hr => d_l_shape FF.T G_l_draw G_l_words cdv A outer s H E pu hr) (s_shape a_Desk)
theorem g_l_row_of (FF : Facts w K mg a_Desk) (G_l_pool : FnD P w K mg base 11 "_law_pool" (sp_l_pool a_Desk)) (G_l_draw : FnD P w K mg base 5 "_law_draw" (sp_l_draw a_Desk)) (G_l_world : FnD P w K mg base 11 "_law_world" (sp_l_world a_Desk)) (G_l_shape : FnD P w K mg base 11 "_law_shape" (sp_l_shape a_Desk)) : FnD P w K mg base 13 "_law_row_of" (sp_l_row_of a_Desk) := by
  obtain ⟨f, fd, F, hm, hb⟩ := FF.d_l_row_of
  exact fnD_of F sc_l_row_of hm hb (fun ss n kk h => by first | (obtain ⟨rfl, _⟩ := h; rfl) | (obtain ⟨_, rfl, _⟩ := h; rfl) | (obtain ⟨_, _, rfl, _⟩ := h; rfl) | (obtain ⟨_, _, _, rfl, _⟩ := h; rfl) | (obtain ⟨_, _, _, _, rfl, _⟩ := h; rfl)) (fun cdv A outer s H E pu hr => d_l_row_of FF.T G_l_pool G_l_draw G_l_world G_l_shape cdv A outer s H E pu hr) (s_row_of a_Desk)
theorem g_l_said_words (FF : Facts w K mg a_Desk)  : FnD P w K mg base 3 "_law_said_words" (sp_l_said_words a_Desk) := by
  obtain ⟨f, fd, F, hm, hb⟩ := FF.d_l_said_words
  exact fnD_of F sc_l_said_words hm hb (fun ss n kk h => by first | (obtain ⟨rfl, _⟩ := h; rfl) | (obtain ⟨_, rfl, _⟩ := h; rfl) | (obtain ⟨_, _, rfl, _⟩ := h; rfl) | (obtain ⟨_, _, _, rfl, _⟩ := h; rfl) | (obtain ⟨_, _, _, _, rfl, _⟩ := h; rfl)) (fun cdv A outer s H E pu hr => d_l_said_words FF.T  cdv A outer s H E pu hr) (w_said_words a_Desk)
theorem g_is_spelt (FF : Facts w K mg a_Desk)  : FnD P w K mg base 3 "is_spelt" (sp_is_spelt a_Desk) := by
  obtain ⟨f, fd, F, hm, hb⟩ := FF.d_is_spelt
  exact fnD_of F sc_is_spelt hm hb (fun ss n kk h => by first | (obtain ⟨rfl, _⟩ := h; rfl) | (obtain ⟨_, rfl, _⟩ := h; rfl) | (obtain ⟨_, _, rfl, _⟩ := h; rfl) | (obtain ⟨_, _, _, rfl, _⟩ := h; rfl) | (obtain ⟨_, _, _, _, rfl, _⟩ := h; rfl)) (fun cdv A outer s H E pu hr => d_is_spelt FF.T  cdv A outer s H E pu hr) (s_spelt a_Desk)
theorem g_is_row (FF : Facts w K mg a_Desk) (G_is_spelt : FnD P w K mg base 3 "is_spelt" (sp_is_spelt a_Desk)) : FnD P w K mg base 5 "is_row" (sp_is_row a_Desk) := by
  obtain ⟨f, fd, F, hm, hb⟩ := FF.d_is_row
  exact fnD_of F sc_is_row hm hb (fun ss n kk h => by first | (obtain ⟨rfl, _⟩ := h; rfl) | (obtain ⟨_, rfl, _⟩ := h; rfl) | (obtain ⟨_, _, rfl, _⟩ := h; rfl) | (obtain ⟨_, _, _, rfl, _⟩ := h; rfl) | (obtain ⟨_, _, _, _, rfl, _⟩ := h; rfl)) (fun cdv A outer s H E pu hr => d_is_row FF.T G_is_spelt cdv A outer s H E pu hr) (w_is_row a_Desk)
theorem g_is_book (FF : Facts w K mg a_Desk) (G_is_spelt : FnD P w K mg base 3 "is_spelt" (sp_is_spelt a_Desk)) (G_is_row : FnD P w K mg base 5 "is_row" (sp_is_row a_Desk)) : FnD P w K mg base 7 "is_book" (sp_is_book a_Desk) := by
  obtain ⟨f, fd, F, hm, hb⟩ := FF.d_is_book
  exact fnD_of F sc_is_book hm hb (fun ss n kk h => by first | (obtain ⟨rfl, _⟩ := h; rfl) | (obtain ⟨_, rfl, _⟩ := h; rfl) | (obtain ⟨_, _, rfl, _⟩ := h; rfl) | (obtain ⟨_, _, _, rfl, _⟩ := h; rfl) | (obtain ⟨_, _, _, _, rfl, _⟩ := h; rfl)) (fun cdv A outer s H E pu hr => d_is_book FF.T G_is_spelt G_is_row cdv A outer s H E pu hr) (w_is_book a_Desk)
theorem g_copied (FF : Facts w K mg a_Desk)  : FnD P w K mg base 3 "copied" (sp_copied a_Desk) := by
  obtain ⟨f, fd, F, hm, hb⟩ := FF.d_copied
  exact fnD_of F sc_copied hm hb (fun ss n kk h => by first | (obtain ⟨rfl, _⟩ := h; rfl) | (obtain ⟨_, rfl, _⟩ := h; rfl) | (obtain ⟨_, _, rfl, _⟩ := h; rfl) | (obtain ⟨_, _, _, rfl, _⟩ := h; rfl) | (obtain ⟨_, _, _, _, rfl, _⟩ := h; rfl)) (fun cdv A outer s H E pu hr => d_copied FF.T  cdv A outer s H E pu hr) (w_copied a_Desk)
theorem g_Desk___init__ (FF : Facts w K mg a_Desk) (G_is_book : FnD P w K mg base 7 "is_book" (sp_is_book a_Desk)) (G_is_spelt : FnD P w K mg base 3 "is_spelt" (sp_is_spelt a_Desk)) (G_copied : FnD P w K mg base 3 "copied" (sp_copied a_Desk)) : InD P w K mg base 9 "Desk" a_Desk (spI_Desk a_Desk) := by
  obtain ⟨f, fd, F, hm, hb⟩ := FF.d_Desk___init__
  exact inD_of F sc_Desk___init__ ⟨FF.hmk, hm.at_, hm.fn, FF.kc⟩ FF.T.m_Desk hb (fun ss n kk h => by obtain ⟨_, _, rfl, _⟩ := h; rfl) (fun cdv A outer s H E pu hr => d_Desk___init__ FF.T G_is_book G_is_spelt G_copied cdv A outer s H E pu hr) (w_init a_Desk)
theorem g_l_desk (FF : Facts w K mg a_Desk) (G_Desk___init__ : InD P w K mg base 9 "Desk" a_Desk (spI_Desk a_Desk)) : FnD P w K mg base 11 "_law_desk" (sp_l_desk a_Desk) := by
  obtain ⟨f, fd, F, hm, hb⟩ := FF.d_l_desk
  exact fnD_of F sc_l_desk hm hb (fun ss n kk h => by first | (obtain ⟨rfl, _⟩ := h; rfl) | (obtain ⟨_, rfl, _⟩ := h; rfl) | (obtain ⟨_, _, rfl, _⟩ := h; rfl) | (obtain ⟨_, _, _, rfl, _⟩ := h; rfl) | (obtain ⟨_, _, _, _, rfl, _⟩ := h; rfl)) (fun cdv A outer s H E pu hr => d_l_desk FF.T G_Desk___init__ cdv A outer s H E pu hr) (w_l_desk a_Desk)
theorem g_l_without (FF : Facts w K mg a_Desk)  : FnD P w K mg base 3 "_law_without" (sp_l_without a_Desk) := by
  obtain ⟨f, fd, F, hm, hb⟩ := FF.d_l_without
  exact fnD_of F sc_l_without hm hb (fun ss n kk h => by first | (obtain ⟨rfl, _⟩ := h; rfl) | (obtain ⟨_, rfl, _⟩ := h; rfl) | (obtain ⟨_, _, rfl, _⟩ := h; rfl) | (obtain ⟨_, _, _, rfl, _⟩ := h; rfl) | (obtain ⟨_, _, _, _, rfl, _⟩ := h; rfl)) (fun cdv A outer s H E pu hr => d_l_without FF.T  cdv A outer s H E pu hr) (w_l_without a_Desk)
theorem g_l_viable (FF : Facts w K mg a_Desk)  : FnD P w K mg base 3 "_law_viable" (sp_l_viable a_Desk) := by
  obtain ⟨f, fd, F, hm, hb⟩ := FF.d_l_viable
  exact fnD_of F sc_l_viable hm hb (fun ss n kk h => by first | (obtain ⟨rfl, _⟩ := h; rfl) | (obtain ⟨_, rfl, _⟩ := h; rfl) | (obtain ⟨_, _, rfl, _⟩ := h; rfl) | (obtain ⟨_, _, _, rfl, _⟩ := h; rfl) | (obtain ⟨_, _, _, _, rfl, _⟩ := h; rfl)) (fun cdv A outer s H E pu hr => d_l_viable FF.T  cdv A outer s H E pu hr) (w_l_viable a_Desk)
theorem g_l_own_rescues (FF : Facts w K mg a_Desk) (G_l_said_words : FnD P w K mg base 3 "_law_said_words" (sp_l_said_words a_Desk)) (G_l_without : FnD P w K mg base 3 "_law_without" (sp_l_without a_Desk)) (G_l_viable : FnD P w K mg base 3 "_law_viable" (sp_l_viable a_Desk)) : FnD P w K mg base 5 "_law_own_rescues" (sp_l_own_rescues a_Desk) := by
  obtain ⟨f, fd, F, hm, hb⟩ := FF.d_l_own_rescues
  exact fnD_of F sc_l_own_rescues hm hb (fun ss n kk h => by first | (obtain ⟨rfl, _⟩ := h; rfl) | (obtain ⟨_, rfl, _⟩ := h; rfl) | (obtain ⟨_, _, rfl, _⟩ := h; rfl) | (obtain ⟨_, _, _, rfl, _⟩ := h; rfl) | (obtain ⟨_, _, _, _, rfl, _⟩ := h; rfl)) (fun cdv A outer s H E pu hr => d_l_own_rescues FF.T G_l_said_words G_l_without G_l_viable cdv A outer s H E pu hr) (w_own_rescues a_Desk)
theorem g_check_desk (FF : Facts w K mg a_Desk)  : FnD P w K mg base 3 "check_desk" (sp_check_desk a_Desk) := by
  obtain ⟨f, fd, F, hm, hb⟩ := FF.d_check_desk
  exact fnD_of F sc_check_desk hm hb (fun ss n kk h => by first | (obtain ⟨rfl, _⟩ := h; rfl) | (obtain ⟨_, rfl, _⟩ := h; rfl) | (obtain ⟨_, _, rfl, _⟩ := h; rfl) | (obtain ⟨_, _, _, rfl, _⟩ := h; rfl) | (obtain ⟨_, _, _, _, rfl, _⟩ := h; rfl)) (fun cdv A outer s H E pu hr => d_check_desk FF.T  cdv A outer s H E pu hr) (w_check_desk a_Desk)
theorem g_words_at (FF : Facts w K mg a_Desk)  : FnD P w K mg base 3 "words_at" (sp_words_at a_Desk) := by
  obtain ⟨f, fd, F, hm, hb⟩ := FF.d_words_at
  exact fnD_of F sc_words_at hm hb (fun ss n kk h => by first | (obtain ⟨rfl, _⟩ := h; rfl) | (obtain ⟨_, rfl, _⟩ := h; rfl) | (obtain ⟨_, _, rfl, _⟩ := h; rfl) | (obtain ⟨_, _, _, rfl, _⟩ := h; rfl) | (obtain ⟨_, _, _, _, rfl, _⟩ := h; rfl)) (fun cdv A outer s H E pu hr => d_words_at FF.T  cdv A outer s H E pu hr) (w_words_at a_Desk)
theorem g_lots_of (FF : Facts w K mg a_Desk)  : FnD P w K mg base 3 "lots_of" (sp_lots_of a_Desk) := by
  obtain ⟨f, fd, F, hm, hb⟩ := FF.d_lots_of
  exact fnD_of F sc_lots_of hm hb (fun ss n kk h => by first | (obtain ⟨rfl, _⟩ := h; rfl) | (obtain ⟨_, rfl, _⟩ := h; rfl) | (obtain ⟨_, _, rfl, _⟩ := h; rfl) | (obtain ⟨_, _, _, rfl, _⟩ := h; rfl) | (obtain ⟨_, _, _, _, rfl, _⟩ := h; rfl)) (fun cdv A outer s H E pu hr => d_lots_of FF.T  cdv A outer s H E pu hr) (w_lots_of a_Desk)
theorem g_are_left (FF : Facts w K mg a_Desk)  : FnD P w K mg base 3 "are_left" (sp_are_left a_Desk) := by
  obtain ⟨f, fd, F, hm, hb⟩ := FF.d_are_left
  exact fnD_of F sc_are_left hm hb (fun ss n kk h => by first | (obtain ⟨rfl, _⟩ := h; rfl) | (obtain ⟨_, rfl, _⟩ := h; rfl) | (obtain ⟨_, _, rfl, _⟩ := h; rfl) | (obtain ⟨_, _, _, rfl, _⟩ := h; rfl) | (obtain ⟨_, _, _, _, rfl, _⟩ := h; rfl)) (fun cdv A outer s H E pu hr => d_are_left FF.T  cdv A outer s H E pu hr) (w_are_left a_Desk)
theorem g_droppable_from (FF : Facts w K mg a_Desk) (G_words_at : FnD P w K mg base 3 "words_at" (sp_words_at a_Desk)) (G_lots_of : FnD P w K mg base 3 "lots_of" (sp_lots_of a_Desk)) (G_are_left : FnD P w K mg base 3 "are_left" (sp_are_left a_Desk)) : FnD P w K mg base 5 "droppable_from" (sp_droppable_from a_Desk) := by
  obtain ⟨f, fd, F, hm, hb⟩ := FF.d_droppable_from
  exact fnD_of F sc_droppable_from hm hb (fun ss n kk h => by first | (obtain ⟨rfl, _⟩ := h; rfl) | (obtain ⟨_, rfl, _⟩ := h; rfl) | (obtain ⟨_, _, rfl, _⟩ := h; rfl) | (obtain ⟨_, _, _, rfl, _⟩ := h; rfl) | (obtain ⟨_, _, _, _, rfl, _⟩ := h; rfl)) (fun cdv A outer s H E pu hr => d_droppable_from FF.T G_words_at G_lots_of G_are_left cdv A outer s H E pu hr) (w_droppable_from a_Desk)
theorem g_without (FF : Facts w K mg a_Desk) (G_Desk___init__ : InD P w K mg base 9 "Desk" a_Desk (spI_Desk a_Desk)) : FnD P w K mg base 11 "without" (sp_without a_Desk) := by
  obtain ⟨f, fd, F, hm, hb⟩ := FF.d_without
  exact fnD_of F sc_without hm hb (fun ss n kk h => by first | (obtain ⟨rfl, _⟩ := h; rfl) | (obtain ⟨_, rfl, _⟩ := h; rfl) | (obtain ⟨_, _, rfl, _⟩ := h; rfl) | (obtain ⟨_, _, _, rfl, _⟩ := h; rfl) | (obtain ⟨_, _, _, _, rfl, _⟩ := h; rfl)) (fun cdv A outer s H E pu hr => d_without FF.T G_Desk___init__ cdv A outer s H E pu hr) (w_without a_Desk)
theorem g_ranked (FF : Facts w K mg a_Desk)  : FnD P w K mg base 3 "ranked" (sp_ranked a_Desk) := by
  obtain ⟨f, fd, F, hm, hb⟩ := FF.d_ranked
  exact fnD_of F sc_ranked hm hb (fun ss n kk h => by first | (obtain ⟨rfl, _⟩ := h; rfl) | (obtain ⟨_, rfl, _⟩ := h; rfl) | (obtain ⟨_, _, rfl, _⟩ := h; rfl) | (obtain ⟨_, _, _, rfl, _⟩ := h; rfl) | (obtain ⟨_, _, _, _, rfl, _⟩ := h; rfl)) (fun cdv A outer s H E pu hr => d_ranked FF.T  cdv A outer s H E pu hr) (w_ranked a_Desk)
theorem g_rounds (FF : Facts w K mg a_Desk) (G_ranked : FnD P w K mg base 3 "ranked" (sp_ranked a_Desk)) : FnD P w K mg base 5 "rounds" (sp_rounds a_Desk) := by
  obtain ⟨f, fd, F, hm, hb⟩ := FF.d_rounds
  exact fnD_of F sc_rounds hm hb (fun ss n kk h => by first | (obtain ⟨rfl, _⟩ := h; rfl) | (obtain ⟨_, rfl, _⟩ := h; rfl) | (obtain ⟨_, _, rfl, _⟩ := h; rfl) | (obtain ⟨_, _, _, rfl, _⟩ := h; rfl) | (obtain ⟨_, _, _, _, rfl, _⟩ := h; rfl)) (fun cdv A outer s H E pu hr => d_rounds FF.T G_ranked cdv A outer s H E pu hr) (w_rounds a_Desk)
theorem g_ranks_of (FF : Facts w K mg a_Desk) (G_rounds : FnD P w K mg base 5 "rounds" (sp_rounds a_Desk)) : FnD P w K mg base 7 "ranks_of" (sp_ranks_of a_Desk) := by
  obtain ⟨f, fd, F, hm, hb⟩ := FF.d_ranks_of
  exact fnD_of F sc_ranks_of hm hb (fun ss n kk h => by first | (obtain ⟨rfl, _⟩ := h; rfl) | (obtain ⟨_, rfl, _⟩ := h; rfl) | (obtain ⟨_, _, rfl, _⟩ := h; rfl) | (obtain ⟨_, _, _, rfl, _⟩ := h; rfl) | (obtain ⟨_, _, _, _, rfl, _⟩ := h; rfl)) (fun cdv A outer s H E pu hr => d_ranks_of FF.T G_rounds cdv A outer s H E pu hr) (w_ranks_of a_Desk)
theorem g_is_viable (FF : Facts w K mg a_Desk) (G_ranks_of : FnD P w K mg base 7 "ranks_of" (sp_ranks_of a_Desk)) : FnD P w K mg base 9 "is_viable" (sp_is_viable a_Desk) := by
  obtain ⟨f, fd, F, hm, hb⟩ := FF.d_is_viable
  exact fnD_of F sc_is_viable hm hb (fun ss n kk h => by first | (obtain ⟨rfl, _⟩ := h; rfl) | (obtain ⟨_, rfl, _⟩ := h; rfl) | (obtain ⟨_, _, rfl, _⟩ := h; rfl) | (obtain ⟨_, _, _, rfl, _⟩ := h; rfl) | (obtain ⟨_, _, _, _, rfl, _⟩ := h; rfl)) (fun cdv A outer s H E pu hr => d_is_viable FF.T G_ranks_of cdv A outer s H E pu hr) (w_is_viable a_Desk)
theorem g_lies_in (FF : Facts w K mg a_Desk)  : FnD P w K mg base 3 "lies_in" (sp_lies_in a_Desk) := by
  obtain ⟨f, fd, F, hm, hb⟩ := FF.d_lies_in
  exact fnD_of F sc_lies_in hm hb (fun ss n kk h => by first | (obtain ⟨rfl, _⟩ := h; rfl) | (obtain ⟨_, rfl, _⟩ := h; rfl) | (obtain ⟨_, _, rfl, _⟩ := h; rfl) | (obtain ⟨_, _, _, rfl, _⟩ := h; rfl) | (obtain ⟨_, _, _, _, rfl, _⟩ := h; rfl)) (fun cdv A outer s H E pu hr => d_lies_in FF.T  cdv A outer s H E pu hr) (w_lies_in a_Desk)
theorem g_least_of (FF : Facts w K mg a_Desk) (G_lies_in : FnD P w K mg base 3 "lies_in" (sp_lies_in a_Desk)) : FnD P w K mg base 5 "least_of" (sp_least_of a_Desk) := by
  obtain ⟨f, fd, F, hm, hb⟩ := FF.d_least_of
  exact fnD_of F sc_least_of hm hb (fun ss n kk h => by first | (obtain ⟨rfl, _⟩ := h; rfl) | (obtain ⟨_, rfl, _⟩ := h; rfl) | (obtain ⟨_, _, rfl, _⟩ := h; rfl) | (obtain ⟨_, _, _, rfl, _⟩ := h; rfl) | (obtain ⟨_, _, _, _, rfl, _⟩ := h; rfl)) (fun cdv A outer s H E pu hr => d_least_of FF.T G_lies_in cdv A outer s H E pu hr) (w_least_of a_Desk)
theorem g_rescues (FF : Facts w K mg a_Desk) (G_check_desk : FnD P w K mg base 3 "check_desk" (sp_check_desk a_Desk)) (G_droppable_from : FnD P w K mg base 5 "droppable_from" (sp_droppable_from a_Desk)) (G_without : FnD P w K mg base 11 "without" (sp_without a_Desk)) (G_is_viable : FnD P w K mg base 9 "is_viable" (sp_is_viable a_Desk)) (G_least_of : FnD P w K mg base 5 "least_of" (sp_least_of a_Desk)) : FnD P w K mg base 13 "rescues" (sp_rescues a_Desk) := by
  obtain ⟨f, fd, F, hm, hb⟩ := FF.d_rescues
  exact fnD_of F sc_rescues hm hb (fun ss n kk h => by first | (obtain ⟨rfl, _⟩ := h; rfl) | (obtain ⟨_, rfl, _⟩ := h; rfl) | (obtain ⟨_, _, rfl, _⟩ := h; rfl) | (obtain ⟨_, _, _, rfl, _⟩ := h; rfl) | (obtain ⟨_, _, _, _, rfl, _⟩ := h; rfl)) (fun cdv A outer s H E pu hr => d_rescues FF.T G_check_desk G_droppable_from G_without G_is_viable G_least_of cdv A outer s H E pu hr) (w_rescues a_Desk)
theorem g_l_exact_m (FF : Facts w K mg a_Desk) : ∀ m : Nat, FnD P w K mg base (m + 4) "_law_exact" (spX m) := fun m => by
  obtain ⟨f, fd, F, hm, hb⟩ := FF.d_l_exact
  induction m with
  | zero =>
    have G0 : FnD P w K mg base 3 "_law_exact" (fun _ _ _ => False) := fnD_of (t := rDead) (k := 2) F sc_l_exact hm hb (fun _ _ _ h => h.elim) (fun cdv A outer s H E pu hr => fun as F μ H σ ρ N s rh h => h.elim) (fun _ _ _ h => h.elim)
    exact fnD_of F sc_l_exact hm hb (fun ss n kk h => by obtain ⟨_, rfl, _⟩ := h; rfl) (fun cdv A outer s H E pu hr => d_l_exact FF.T G0 cdv A outer s H E pu hr) (w_exact a_Desk 0 fun ss n kk h => absurd h (by decide))
  | succ m ih =>
    exact fnD_of F sc_l_exact hm hb (fun ss n kk h => by obtain ⟨_, rfl, _⟩ := h; rfl) (fun cdv A outer s H E pu hr => d_l_exact FF.T ih cdv A outer s H E pu hr) (w_exact a_Desk (m + 1) fun ss n kk _ h => h)
theorem g_l_exact (FF : Facts w K mg a_Desk) : FnD P w K mg base 15 "_law_exact" (sp_l_exact a_Desk) := (g_l_exact_m FF 8).mono (by decide)
theorem g_is_word_at (FF : Facts w K mg a_Desk) (G_is_spelt : FnD P w K mg base 3 "is_spelt" (sp_is_spelt a_Desk)) : FnD P w K mg base 5 "is_word_at" (sp_is_word_at a_Desk) := by
  obtain ⟨f, fd, F, hm, hb⟩ := FF.d_is_word_at
  exact fnD_of F sc_is_word_at hm hb (fun ss n kk h => by first | (obtain ⟨rfl, _⟩ := h; rfl) | (obtain ⟨_, rfl, _⟩ := h; rfl) | (obtain ⟨_, _, rfl, _⟩ := h; rfl) | (obtain ⟨_, _, _, rfl, _⟩ := h; rfl) | (obtain ⟨_, _, _, _, rfl, _⟩ := h; rfl)) (fun cdv A outer s H E pu hr => d_is_word_at FF.T G_is_spelt cdv A outer s H E pu hr) (w_is_word_at a_Desk)
theorem g_is_ascending (FF : Facts w K mg a_Desk)  : FnD P w K mg base 3 "is_ascending" (sp_is_ascending a_Desk) := by
  obtain ⟨f, fd, F, hm, hb⟩ := FF.d_is_ascending
  exact fnD_of F sc_is_ascending hm hb (fun ss n kk h => by first | (obtain ⟨rfl, _⟩ := h; rfl) | (obtain ⟨_, rfl, _⟩ := h; rfl) | (obtain ⟨_, _, rfl, _⟩ := h; rfl) | (obtain ⟨_, _, _, rfl, _⟩ := h; rfl) | (obtain ⟨_, _, _, _, rfl, _⟩ := h; rfl)) (fun cdv A outer s H E pu hr => d_is_ascending FF.T  cdv A outer s H E pu hr) (w_is_ascending a_Desk)
theorem g_is_list_of (FF : Facts w K mg a_Desk) (G_is_word_at : FnD P w K mg base 5 "is_word_at" (sp_is_word_at a_Desk)) (G_is_ascending : FnD P w K mg base 3 "is_ascending" (sp_is_ascending a_Desk)) (G_words_at : FnD P w K mg base 3 "words_at" (sp_words_at a_Desk)) (G_are_left : FnD P w K mg base 3 "are_left" (sp_are_left a_Desk)) : FnD P w K mg base 7 "is_list_of" (sp_is_list_of a_Desk) := by
  obtain ⟨f, fd, F, hm, hb⟩ := FF.d_is_list_of
  exact fnD_of F sc_is_list_of hm hb (fun ss n kk h => by first | (obtain ⟨rfl, _⟩ := h; rfl) | (obtain ⟨_, rfl, _⟩ := h; rfl) | (obtain ⟨_, _, rfl, _⟩ := h; rfl) | (obtain ⟨_, _, _, rfl, _⟩ := h; rfl) | (obtain ⟨_, _, _, _, rfl, _⟩ := h; rfl)) (fun cdv A outer s H E pu hr => d_is_list_of FF.T G_is_word_at G_is_ascending G_words_at G_are_left cdv A outer s H E pu hr) (w_is_list_of a_Desk)
theorem g_check_lot (FF : Facts w K mg a_Desk) (G_check_desk : FnD P w K mg base 3 "check_desk" (sp_check_desk a_Desk)) (G_is_list_of : FnD P w K mg base 7 "is_list_of" (sp_is_list_of a_Desk)) : FnD P w K mg base 9 "check_lot" (sp_check_lot a_Desk) := by
  obtain ⟨f, fd, F, hm, hb⟩ := FF.d_check_lot
  exact fnD_of F sc_check_lot hm hb (fun ss n kk h => by first | (obtain ⟨rfl, _⟩ := h; rfl) | (obtain ⟨_, rfl, _⟩ := h; rfl) | (obtain ⟨_, _, rfl, _⟩ := h; rfl) | (obtain ⟨_, _, _, rfl, _⟩ := h; rfl) | (obtain ⟨_, _, _, _, rfl, _⟩ := h; rfl)) (fun cdv A outer s H E pu hr => d_check_lot FF.T G_check_desk G_is_list_of cdv A outer s H E pu hr) (w_check_lot a_Desk)
theorem g_dropped (FF : Facts w K mg a_Desk) (G_check_lot : FnD P w K mg base 9 "check_lot" (sp_check_lot a_Desk)) (G_without : FnD P w K mg base 11 "without" (sp_without a_Desk)) : FnD P w K mg base 13 "dropped" (sp_dropped a_Desk) := by
  obtain ⟨f, fd, F, hm, hb⟩ := FF.d_dropped
  exact fnD_of F sc_dropped hm hb (fun ss n kk h => by first | (obtain ⟨rfl, _⟩ := h; rfl) | (obtain ⟨_, rfl, _⟩ := h; rfl) | (obtain ⟨_, _, rfl, _⟩ := h; rfl) | (obtain ⟨_, _, _, rfl, _⟩ := h; rfl) | (obtain ⟨_, _, _, _, rfl, _⟩ := h; rfl)) (fun cdv A outer s H E pu hr => d_dropped FF.T G_check_lot G_without cdv A outer s H E pu hr) (w_dropped a_Desk)
theorem g_has_partner (FF : Facts w K mg a_Desk) (G_check_desk : FnD P w K mg base 3 "check_desk" (sp_check_desk a_Desk)) (G_is_viable : FnD P w K mg base 9 "is_viable" (sp_is_viable a_Desk)) : FnD P w K mg base 11 "has_partner" (sp_has_partner a_Desk) := by
  obtain ⟨f, fd, F, hm, hb⟩ := FF.d_has_partner
  exact fnD_of F sc_has_partner hm hb (fun ss n kk h => by first | (obtain ⟨rfl, _⟩ := h; rfl) | (obtain ⟨_, rfl, _⟩ := h; rfl) | (obtain ⟨_, _, rfl, _⟩ := h; rfl) | (obtain ⟨_, _, _, rfl, _⟩ := h; rfl) | (obtain ⟨_, _, _, _, rfl, _⟩ := h; rfl)) (fun cdv A outer s H E pu hr => d_has_partner FF.T G_check_desk G_is_viable cdv A outer s H E pu hr) (w_has_partner a_Desk)
theorem g_Desk_start (FF : Facts w K mg a_Desk)  : MtD P w K mg base 3 a_Desk "start" (sp_Desk_start a_Desk) := by
  obtain ⟨f, fd, F, hm, hb⟩ := FF.d_Desk_start
  exact mtD_of (fnOk_of F sc_Desk_start (fun ss n kk h => by first | (obtain ⟨rfl, _⟩ := h; rfl) | (obtain ⟨_, rfl, _⟩ := h; rfl) | (obtain ⟨_, _, rfl, _⟩ := h; rfl) | (obtain ⟨_, _, _, rfl, _⟩ := h; rfl) | (obtain ⟨_, _, _, _, rfl, _⟩ := h; rfl)) (fun cdv A outer s H E pu hr => d_Desk_start FF.T  cdv A outer s H E pu hr) (w_Desk_start a_Desk)) FF.T.c_Desk hm hb
theorem g_Desk_book (FF : Facts w K mg a_Desk) (G_copied : FnD P w K mg base 3 "copied" (sp_copied a_Desk)) : MtD P w K mg base 5 a_Desk "book" (sp_Desk_book a_Desk) := by
  obtain ⟨f, fd, F, hm, hb⟩ := FF.d_Desk_book
  exact mtD_of (fnOk_of F sc_Desk_book (fun ss n kk h => by first | (obtain ⟨rfl, _⟩ := h; rfl) | (obtain ⟨_, rfl, _⟩ := h; rfl) | (obtain ⟨_, _, rfl, _⟩ := h; rfl) | (obtain ⟨_, _, _, rfl, _⟩ := h; rfl) | (obtain ⟨_, _, _, _, rfl, _⟩ := h; rfl)) (fun cdv A outer s H E pu hr => d_Desk_book FF.T G_copied cdv A outer s H E pu hr) (w_Desk_book a_Desk)) FF.T.c_Desk hm hb
theorem g_Desk___eq__ (FF : Facts w K mg a_Desk)  : EqD P w K mg base 3 a_Desk (sp_Desk___eq__ a_Desk) := by
  obtain ⟨f, fd, F, hm, hb⟩ := FF.d_Desk___eq__
  exact ⟨f, fd, _, fnOk_of F sc_Desk___eq__ (fun ss n kk h => by first | (obtain ⟨rfl, _⟩ := h; rfl) | (obtain ⟨_, rfl, _⟩ := h; rfl) | (obtain ⟨_, _, rfl, _⟩ := h; rfl) | (obtain ⟨_, _, _, rfl, _⟩ := h; rfl) | (obtain ⟨_, _, _, _, rfl, _⟩ := h; rfl)) (fun cdv A outer s H E pu hr => d_Desk___eq__ FF.T  cdv A outer s H E pu hr) (w_Desk_eq a_Desk), hm.at_, hm.fn, hb⟩
theorem g_l_stays (FF : Facts w K mg a_Desk) (G_Desk_start : MtD P w K mg base 3 a_Desk "start" (sp_Desk_start a_Desk)) (G_Desk_book : MtD P w K mg base 5 a_Desk "book" (sp_Desk_book a_Desk)) (G_l_exact : FnD P w K mg base 15 "_law_exact" (sp_l_exact a_Desk)) (G_l_desk : FnD P w K mg base 11 "_law_desk" (sp_l_desk a_Desk)) (G_Desk___eq__ : EqD P w K mg base 3 a_Desk (sp_Desk___eq__ a_Desk)) : FnD P w K mg base 17 "_law_stays" (sp_l_stays a_Desk) := by
  obtain ⟨f, fd, F, hm, hb⟩ := FF.d_l_stays
  exact fnD_of F sc_l_stays hm hb (fun ss n kk h => by first | (obtain ⟨rfl, _⟩ := h; rfl) | (obtain ⟨_, rfl, _⟩ := h; rfl) | (obtain ⟨_, _, rfl, _⟩ := h; rfl) | (obtain ⟨_, _, _, rfl, _⟩ := h; rfl) | (obtain ⟨_, _, _, _, rfl, _⟩ := h; rfl)) (fun cdv A outer s H E pu hr => d_l_stays FF.T G_Desk_start G_Desk_book G_l_exact G_l_desk G_Desk___eq__ cdv A outer s H E pu hr) (w_stays a_Desk)
theorem g_l_turned_book (FF : Facts w K mg a_Desk) (G_Desk___init__ : InD P w K mg base 9 "Desk" a_Desk (spI_Desk a_Desk)) : FnD P w K mg base 11 "_law_turned_book" (sp_l_turned_book a_Desk) := by
  obtain ⟨f, fd, F, hm, hb⟩ := FF.d_l_turned_book
  exact fnD_of F sc_l_turned_book hm hb (fun ss n kk h => by first | (obtain ⟨rfl, _⟩ := h; rfl) | (obtain ⟨_, rfl, _⟩ := h; rfl) | (obtain ⟨_, _, rfl, _⟩ := h; rfl) | (obtain ⟨_, _, _, rfl, _⟩ := h; rfl) | (obtain ⟨_, _, _, _, rfl, _⟩ := h; rfl)) (fun cdv A outer s H E pu hr => d_l_turned_book FF.T G_Desk___init__ cdv A outer s H E pu hr) (w_turned_book a_Desk)
theorem g_l_rescues_right (FF : Facts w K mg a_Desk) (G_l_desk : FnD P w K mg base 11 "_law_desk" (sp_l_desk a_Desk)) (G_l_own_rescues : FnD P w K mg base 5 "_law_own_rescues" (sp_l_own_rescues a_Desk)) (G_rescues : FnD P w K mg base 13 "rescues" (sp_rescues a_Desk)) (G_l_exact : FnD P w K mg base 15 "_law_exact" (sp_l_exact a_Desk)) (G_dropped : FnD P w K mg base 13 "dropped" (sp_dropped a_Desk)) (G_has_partner : FnD P w K mg base 11 "has_partner" (sp_has_partner a_Desk)) (G_l_without : FnD P w K mg base 3 "_law_without" (sp_l_without a_Desk)) (G_l_stays : FnD P w K mg base 17 "_law_stays" (sp_l_stays a_Desk)) (G_l_turned_book : FnD P w K mg base 11 "_law_turned_book" (sp_l_turned_book a_Desk)) : FnD P w K mg base 19 "_law_rescues_right" (sp_l_rescues_right a_Desk) := by
  obtain ⟨f, fd, F, hm, hb⟩ := FF.d_l_rescues_right
  exact fnD_of F sc_l_rescues_right hm hb (fun ss n kk h => by first | (obtain ⟨rfl, _⟩ := h; rfl) | (obtain ⟨_, rfl, _⟩ := h; rfl) | (obtain ⟨_, _, rfl, _⟩ := h; rfl) | (obtain ⟨_, _, _, rfl, _⟩ := h; rfl) | (obtain ⟨_, _, _, _, rfl, _⟩ := h; rfl)) (fun cdv A outer s H E pu hr => d_rr FF.T G_l_desk G_l_own_rescues G_rescues G_l_exact G_dropped G_has_partner G_l_without G_l_stays G_l_turned_book cdv A outer s H E pu hr) (w_rr a_Desk)
end
theorem law_fin {P : Program} {w : World} {K : PySem.W.Frag} {mg : Str → Option Value} {fa : Addr} (hmg : mg "law" = some (.ref fa)) (FF : ∃ aD, Facts w K mg aD) : ∃ fd : FuncData, (∀ (s : Shared) (u : Value), BindsTo s fd ⟨[u], []⟩ [("_law_script", u)]) ∧ ∀ base : Heap, K.In base → base.Ns mainGlobals mg → L2.FnOk P w K mg base L2.CX0 41 fa fd ["_law_script"] (spLaw K) := by
  obtain ⟨aD, FF⟩ := FF
  obtain ⟨f, fd, F, hm, hb⟩ := FF.d_law
  have e : f = fa := by
    rw [hmg] at hm
    cases hm
    rfl
  subst e
  refine ⟨fd, fun s u => ?_, fun base _ _ => ?_⟩
  · obtain ⟨oc, od, kV, doc, pm, an, cdv, ct, osl, e, _, _⟩ := F.ex
    subst e
    exact BindsTo.of_eq (by first | rfl | with_unfolding_all rfl)
  obtain ⟨fP, fdP, FP, mP, bP⟩ := FF.d_l_purse
  obtain ⟨fS, fdS, FS, mS, bS⟩ := FF.d_l_purses
  have GS := ok_purses (P := P) (base := base) FS FF.T FP mP bP
  have G_l_mixed := g_l_mixed (P := P) (base := base) FF
  have G_l_draw := g_l_draw (P := P) (base := base) FF G_l_mixed
  have G_l_word := g_l_word (P := P) (base := base) FF G_l_draw
  have G_l_words := g_l_words (P := P) (base := base) FF G_l_word G_l_draw
  have G_l_shuffled := g_l_shuffled (P := P) (base := base) FF G_l_draw
  have G_l_pool := g_l_pool (P := P) (base := base) FF G_l_words G_l_draw G_l_shuffled
  have G_l_one_of := g_l_one_of (P := P) (base := base) FF G_l_draw
  have G_l_turns := g_l_turns (P := P) (base := base) FF G_l_draw G_l_shuffled G_l_one_of
  have G_l_world := g_l_world (P := P) (base := base) FF G_l_draw G_l_words G_l_shuffled G_l_turns
  have G_l_shape := g_l_shape (P := P) (base := base) FF G_l_draw G_l_words
  have G_l_row_of := g_l_row_of (P := P) (base := base) FF G_l_pool G_l_draw G_l_world G_l_shape
  have G_l_said_words := g_l_said_words (P := P) (base := base) FF
  have G_is_spelt := g_is_spelt (P := P) (base := base) FF
  have G_is_row := g_is_row (P := P) (base := base) FF G_is_spelt
  have G_is_book := g_is_book (P := P) (base := base) FF G_is_spelt G_is_row
  have G_copied := g_copied (P := P) (base := base) FF
  have G_Desk___init__ := g_Desk___init__ (P := P) (base := base) FF G_is_book G_is_spelt G_copied
  have G_l_desk := g_l_desk (P := P) (base := base) FF G_Desk___init__
  have G_l_without := g_l_without (P := P) (base := base) FF
  have G_l_viable := g_l_viable (P := P) (base := base) FF
  have G_l_own_rescues := g_l_own_rescues (P := P) (base := base) FF G_l_said_words G_l_without G_l_viable
  have G_check_desk := g_check_desk (P := P) (base := base) FF
  have G_words_at := g_words_at (P := P) (base := base) FF
  have G_lots_of := g_lots_of (P := P) (base := base) FF
  have G_are_left := g_are_left (P := P) (base := base) FF
  have G_droppable_from := g_droppable_from (P := P) (base := base) FF G_words_at G_lots_of G_are_left
  have G_without := g_without (P := P) (base := base) FF G_Desk___init__
  have G_ranked := g_ranked (P := P) (base := base) FF
  have G_rounds := g_rounds (P := P) (base := base) FF G_ranked
  have G_ranks_of := g_ranks_of (P := P) (base := base) FF G_rounds
  have G_is_viable := g_is_viable (P := P) (base := base) FF G_ranks_of
  have G_lies_in := g_lies_in (P := P) (base := base) FF
  have G_least_of := g_least_of (P := P) (base := base) FF G_lies_in
  have G_rescues := g_rescues (P := P) (base := base) FF G_check_desk G_droppable_from G_without G_is_viable G_least_of
  have G_l_exact := g_l_exact (P := P) (base := base) FF
  have G_is_word_at := g_is_word_at (P := P) (base := base) FF G_is_spelt
  have G_is_ascending := g_is_ascending (P := P) (base := base) FF
  have G_is_list_of := g_is_list_of (P := P) (base := base) FF G_is_word_at G_is_ascending G_words_at G_are_left
  have G_check_lot := g_check_lot (P := P) (base := base) FF G_check_desk G_is_list_of
  have G_dropped := g_dropped (P := P) (base := base) FF G_check_lot G_without
  have G_has_partner := g_has_partner (P := P) (base := base) FF G_check_desk G_is_viable
  have G_Desk_start := g_Desk_start (P := P) (base := base) FF
  have G_Desk_book := g_Desk_book (P := P) (base := base) FF G_copied
  have G_Desk___eq__ := g_Desk___eq__ (P := P) (base := base) FF
  have G_l_stays := g_l_stays (P := P) (base := base) FF G_Desk_start G_Desk_book G_l_exact G_l_desk G_Desk___eq__
  have G_l_turned_book := g_l_turned_book (P := P) (base := base) FF G_Desk___init__
  have G_l_rescues_right := g_l_rescues_right (P := P) (base := base) FF G_l_desk G_l_own_rescues G_rescues G_l_exact G_dropped G_has_partner G_l_without G_l_stays G_l_turned_book
  exact ok_law F FF.T GS mS FS.kp bS G_l_row_of G_l_said_words G_l_rescues_right (by decide) (by decide) (by decide)
end DL
/-! ## HT -/
open PySem PySem.W PyProof.Rows
set_option maxRecDepth 100000 in
set_option maxHeartbeats 0 in
theorem PySem.Challenge.cw_endswell_k23_whole_rescues_holds : PySem.Challenge.rw_endswell_k23_whole_rescues.Holds := by
  w_on; o_law; k_head; (case hw => w_witness2)
  k_fill
  refine L2.walk_of (l := PySem.Challenge.rw_endswell_k23_whole_rescues) (n := 63) (k := 41) (x := "_law_script") (CX := fun _ => L2.CX0) (sp := fun w => DL.spLaw _) rfl (by decide) rfl ⟨rfl, by decide, by decide⟩ (fun w h Y => PySem.W.kIn_of Y) ?F (fun _ _ a ns hl _ hS => ⟨a, ns, rfl, hS, hl, fun _ => rfl⟩) fun _ _ _ _ _ z => z
  case F =>
    intro w mg fa h KX G hmg
    refine DL.law_fin hmg ?_
    · refine' ⟨_, DL.facts_mk KX G ?aC ?z_all ?z_any ?z_bool ?z_dict ?z_int ?z_isinstance ?z_len ?z_list ?z_max ?z_min ?z_range ?z_sorted ?z_str ?z_sum ?z_tuple ?z_zip ?aL ?aT ?lT ?litT ?lowT ?uT1e ?uT2e ?uT3e ?c_pg ?c_hd ?c_po ?c_sa ?n_rows ?n_first ?o_ha ?o_hn ?o_tk ?o_hm ?o_n0 ?o_n1 ?o_n2 ?o_n3 ?o_n4 ?o_n5 ?o_n6 ?k_mk ?k_kc ?a1 ?l1 ?c1 ?k1 ?a2 ?l2 ?c2 ?k2 ?a3 ?l3 ?c3 ?k3 ?a4 ?l4 ?c4 ?k4 ?a5 ?l5 ?c5 ?k5 ?a6 ?l6 ?c6 ?k6 ?a7 ?l7 ?c7 ?k7 ?a8 ?l8 ?c8 ?k8 ?a9 ?l9 ?c9 ?k9 ?a10 ?l10 ?c10 ?k10 ?a11 ?l11 ?c11 ?k11 ?a12 ?l12 ?c12 ?k12 ?a13 ?l13 ?c13 ?k13 ?a14 ?l14 ?c14 ?k14 ?a15 ?l15 ?c15 ?k15 ?a16 ?l16 ?c16 ?k16 ?a17 ?l17 ?c17 ?k17 ?a18 ?l18 ?c18 ?k18 ?a19 ?i19 ?l19 ?c19 ?k19 ?a20 ?l20 ?c20 ?k20 ?a21 ?l21 ?c21 ?k21 ?a22 ?l22 ?c22 ?k22 ?a23 ?l23 ?c23 ?k23 ?a24 ?l24 ?c24 ?k24 ?a25 ?l25 ?c25 ?k25 ?a26 ?l26 ?c26 ?k26 ?a27 ?l27 ?c27 ?k27 ?a28 ?l28 ?c28 ?k28 ?a29 ?l29 ?c29 ?k29 ?a30 ?l30 ?c30 ?k30 ?a31 ?l31 ?c31 ?k31 ?a32 ?l32 ?c32 ?k32 ?a33 ?l33 ?c33 ?k33 ?a34 ?l34 ?c34 ?k34 ?a35 ?l35 ?c35 ?k35 ?a36 ?l36 ?c36 ?k36 ?a37 ?l37 ?c37 ?k37 ?a38 ?l38 ?c38 ?k38 ?a39 ?l39 ?c39 ?k39 ?a40 ?l40 ?c40 ?k40 ?a41 ?l41 ?c41 ?k41 ?a42 ?l42 ?c42 ?k42 ?a43 ?l43 ?c43 ?k43 ?a44 ?i44 ?l44 ?c44 ?k44 ?a45 ?i45 ?l45 ?c45 ?k45 ?a46 ?i46 ?l46 ?c46 ?k46 ?a47 ?l47 ?c47 ?k47 ?a48 ?l48 ?c48 ?k48 ?a49 ?l49 ?c49 ?k49 ?a50 ?l50 ?c50 ?k50⟩
      (case aC => k_is)
      (case z_all => k_is)
      (case z_any => k_is)
      (case z_bool => k_is)
      (case z_dict => k_is)
      (case z_int => k_is)
      (case z_isinstance => k_is)
      (case z_len => k_is)
      (case z_list => k_is)
      (case z_max => k_is)
      (case z_min => k_is)
      (case z_range => k_is)
      (case z_sorted => k_is)
      (case z_str => k_is)
      (case z_sum => k_is)
      (case z_tuple => k_is)
      (case z_zip => k_is)
      (case aL => k_is)
      (case aT => k_is)
      (case lT => k_is)
      (case lowT => rfl)
      (case uT1e => k_is)
      (case uT2e => k_is)
      (case uT3e => k_is)
      (case c_pg => k_is)
      (case c_hd => k_is)
      (case c_po => k_is)
      (case c_sa => k_is)
      (case n_rows => k_is)
      (case n_first => k_is)
      (case o_ha => k_is)
      (case o_hn => k_is)
      (case o_tk => k_is)
      (case o_hm => k_is)
      (case o_n0 => kit_is)
      (case o_n1 => kit_is)
      (case o_n2 => kit_is)
      (case o_n3 => kit_is)
      (case o_n4 => kit_is)
      (case o_n5 => kit_is)
      (case o_n6 => kit_is)
      (case k_mk => k_is)
      (case k_kc => k_is)
      (case a1 => k_is)
      (case l1 => k_is)
      (case c1 => k_is)
      (case k1 => k_is)
      (case a2 => k_is)
      (case l2 => k_is)
      (case c2 => k_is)
      (case k2 => k_is)
      (case a3 => k_is)
      (case l3 => k_is)
      (case c3 => k_is)
      (case k3 => k_is)
      (case a4 => k_is)
      (case l4 => k_is)
      (case c4 => k_is)
      (case k4 => k_is)
      (case a5 => k_is)
      (case l5 => k_is)
      (case c5 => k_is)
      (case k5 => k_is)
      (case a6 => k_is)
      (case l6 => k_is)
      (case c6 => k_is)
      (case k6 => k_is)
      (case a7 => k_is)
      (case l7 => k_is)
      (case c7 => k_is)
      (case k7 => k_is)
      (case a8 => k_is)
      (case l8 => k_is)
      (case c8 => k_is)
      (case k8 => k_is)
      (case a9 => k_is)
      (case l9 => k_is)
      (case c9 => k_is)
      (case k9 => k_is)
      (case a10 => k_is)
      (case l10 => k_is)
      (case c10 => k_is)
      (case k10 => k_is)
      (case a11 => k_is)
      (case l11 => k_is)
      (case c11 => k_is)
      (case k11 => k_is)
      (case a12 => k_is)
      (case l12 => k_is)
      (case c12 => k_is)
      (case k12 => k_is)
      (case a13 => k_is)
      (case l13 => k_is)
      (case c13 => k_is)
      (case k13 => k_is)
      (case a14 => k_is)
      (case l14 => k_is)
      (case c14 => k_is)
      (case k14 => k_is)
      (case a15 => k_is)
      (case l15 => k_is)
      (case c15 => k_is)
      (case k15 => k_is)
      (case a16 => k_is)
      (case l16 => k_is)
      (case c16 => k_is)
      (case k16 => k_is)
      (case a17 => k_is)
      (case l17 => k_is)
      (case c17 => k_is)
      (case k17 => k_is)
      (case a18 => k_is)
      (case l18 => k_is)
      (case c18 => k_is)
      (case k18 => k_is)
      (case a19 => k_is)
      (case i19 => k_is)
      (case l19 => k_is)
      (case c19 => k_is)
      (case k19 => k_is)
      (case a20 => k_is)
      (case l20 => k_is)
      (case c20 => k_is)
      (case k20 => k_is)
      (case a21 => k_is)
      (case l21 => k_is)
      (case c21 => k_is)
      (case k21 => k_is)
      (case a22 => k_is)
      (case l22 => k_is)
      (case c22 => k_is)
      (case k22 => k_is)
      (case a23 => k_is)
      (case l23 => k_is)
      (case c23 => k_is)
      (case k23 => k_is)
      (case a24 => k_is)
      (case l24 => k_is)
      (case c24 => k_is)
      (case k24 => k_is)
      (case a25 => k_is)
      (case l25 => k_is)
      (case c25 => k_is)
      (case k25 => k_is)
      (case a26 => k_is)
      (case l26 => k_is)
      (case c26 => k_is)
      (case k26 => k_is)
      (case a27 => k_is)
      (case l27 => k_is)
      (case c27 => k_is)
      (case k27 => k_is)
      (case a28 => k_is)
      (case l28 => k_is)
      (case c28 => k_is)
      (case k28 => k_is)
      (case a29 => k_is)
      (case l29 => k_is)
      (case c29 => k_is)
      (case k29 => k_is)
      (case a30 => k_is)
      (case l30 => k_is)
      (case c30 => k_is)
      (case k30 => k_is)
      (case a31 => k_is)
      (case l31 => k_is)
      (case c31 => k_is)
      (case k31 => k_is)
      (case a32 => k_is)
      (case l32 => k_is)
      (case c32 => k_is)
      (case k32 => k_is)
      (case a33 => k_is)
      (case l33 => k_is)
      (case c33 => k_is)
      (case k33 => k_is)
      (case a34 => k_is)
      (case l34 => k_is)
      (case c34 => k_is)
      (case k34 => k_is)
      (case a35 => k_is)
      (case l35 => k_is)
      (case c35 => k_is)
      (case k35 => k_is)
      (case a36 => k_is)
      (case l36 => k_is)
      (case c36 => k_is)
      (case k36 => k_is)
      (case a37 => k_is)
      (case l37 => k_is)
      (case c37 => k_is)
      (case k37 => k_is)
      (case a38 => k_is)
      (case l38 => k_is)
      (case c38 => k_is)
      (case k38 => k_is)
      (case a39 => k_is)
      (case l39 => k_is)
      (case c39 => k_is)
      (case k39 => k_is)
      (case a40 => k_is)
      (case l40 => k_is)
      (case c40 => k_is)
      (case k40 => k_is)
      (case a41 => k_is)
      (case l41 => k_is)
      (case c41 => k_is)
      (case k41 => k_is)
      (case a42 => k_is)
      (case l42 => k_is)
      (case c42 => k_is)
      (case k42 => k_is)
      (case a43 => k_is)
      (case l43 => k_is)
      (case c43 => k_is)
      (case k43 => k_is)
      (case a44 => k_is)
      (case i44 => k_is)
      (case l44 => k_is)
      (case c44 => k_is)
      (case k44 => k_is)
      (case a45 => k_is)
      (case i45 => k_is)
      (case l45 => k_is)
      (case c45 => k_is)
      (case k45 => k_is)
      (case a46 => k_is)
      (case i46 => k_is)
      (case l46 => k_is)
      (case c46 => k_is)
      (case k46 => k_is)
      (case a47 => k_is)
      (case l47 => k_is)
      (case c47 => k_is)
      (case k47 => k_is)
      (case a48 => k_is)
      (case l48 => k_is)
      (case c48 => k_is)
      (case k48 => k_is)
      (case a49 => k_is)
      (case l49 => k_is)
      (case c49 => k_is)
      (case k49 => k_is)
      (case a50 => k_is)
      (case l50 => k_is)
      (case c50 => k_is)
      (case k50 => k_is)
      (case litT => exact ⟨⟨_, _, rfl, rfl⟩, ⟨_, _, rfl, rfl⟩, ⟨_, _, rfl, rfl⟩, trivial⟩)
