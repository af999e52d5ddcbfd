import PyProof.Rows.All
import Wide.All
import OpenK.AllK
import Wide.FinOn
import HandS.ForMost
import HandS.Exc
import HandS.IsInst
import HandS.WordsExc
import HandS.EndBits
import HandS.ExcInit
import HandS.ExcSuper
import KE.KExcSuper
import HandS.ExcValue
import KE.KExcIs
import HandS.ExcField
import HandS.RaiseMore
import HandS.Wide
import HandS.Iter
import HandS.TupAny
import HandS.List
import PySem.Challenge.RW_shiftspread_k01_errors_and_their_fields
set_option Elab.async false
set_option linter.all false
set_option maxRecDepth 100000
set_option maxHeartbeats 4000000
namespace DL
open PySem L2

/-- plain data: what a program's value is worth, without addresses -/
inductive D where
  | non | bl (b : Bool) | int (i : Int) | str (x : Str)
  | lst (l : List D) | tup (l : List D) | dct (ks : List Key) (l : List D)
  | obj (c : Nat) (l : List D) | exc (c : Nat) (l : List D)
  | cls (c : Nat) | ty (n : String) | pen

/-- the law's pen: the script, how many were begun, what is left of a great one -/
structure Pn where
  xs : List Int
  at_ : Nat
  left : Nat
/-- what is fixed: the written part, the classes by number, their fields' names -/
structure G where
  K : PySem.W.Frag
  ct : Nat → Addr
  fn : Nat → List Str
/-- what may change (the pen); what stands apart: no value leads there -/
structure Mw where
  pen : Option Addr
  mt : Addr → Prop
  hd : Addr → Prop
def Mw.ex (m : Mw) (a : Addr) : Prop := m.mt a ∨ m.hd a
theorem Mw.nmt {m : Mw} {a : Addr} (h : ¬ m.ex a) : ¬ m.mt a := fun z => h (.inl z)
/-- one more that stands apart -/
def Mw.hide (m : Mw) (p : Addr) : Mw := ⟨m.pen, m.mt, fun a => m.hd a ∨ a = p⟩

/-- an exception object at a, its dict -/
def ExD (C a : Addr) (dx : Option Addr) : HO := .ext fun h => ∃ (oe : Obj) (vs : Array Value), h.get? a = some oe ∧ oe.cls = .ref C ∧ oe.dict = dx ∧ oe.data = .fields vs ∧ vs[1]? = some .none ∧ vs[2]? = some .none ∧ 4 < vs.size

/-- the fields of an exception stand in its dict; without fields it may have none -/
def XdAt (m : Mw) (H : Hp) (fn : List Str) (l : List D) (od : Option Addr) (vs : List V) : Prop := match od with
  | some dx => ¬ m.ex dx ∧ H dx = some (.xd (fn.zip vs))
  | none => l = []
mutual
def Rep (g : G) (m : Mw) (H : Hp) : D → V → Prop
  | .non, v => v = .non
  | .bl b, v => v = .bl b
  | .int i, v => v = .int i
  | .str x, v => v = .str x
  | .lst l, v => ∃ a vs, v = .ref a ∧ ¬ m.ex a ∧ H a = some (.lst vs) ∧ RepL g m H l vs
  | .tup l, v => ∃ a vs, v = .ref a ∧ ¬ m.ex a ∧ H a = some (.tup vs) ∧ RepL g m H l vs
  | .dct ks l, v => ∃ a vs, v = .ref a ∧ ¬ m.ex a ∧ ks.length = l.length ∧ H a = some (.dK (ks.zip vs)) ∧ RepL g m H l vs
  | .obj c l, v => ∃ a dx vs, v = .ref a ∧ ¬ m.ex a ∧ (g.fn c).length = l.length ∧ H a = some (.ins (g.ct c) dx ((g.fn c).zip vs)) ∧ RepL g m H l vs
  | .exc c l, v => ∃ a od vs, v = .ref a ∧ ¬ m.ex a ∧ (g.fn c).length = l.length ∧ H a = some (ExD (g.ct c) a od) ∧ XdAt m H (g.fn c) l od vs ∧ RepL g m H l vs
  | .cls c, v => v = .ref (g.ct c)
  | .ty n, v => v = .ty n
  | .pen, v => ∃ p, m.pen = some p ∧ v = .ref p
def RepL (g : G) (m : Mw) (H : Hp) : List D → List V → Prop
  | [], vs => vs = []
  | d :: ds, vs => ∃ x xs, vs = x :: xs ∧ Rep g m H d x ∧ RepL g m H ds xs
end

def Go (m : Mw) (H H' : Hp) : Prop := ∀ a o, H a = some o → ¬ m.mt a → H' a = some o
theorem Go.refl (m : Mw) (H : Hp) : Go m H H := fun _ _ h _ => h
theorem Go.trans {m : Mw} {H H1 H2 : Hp} (a : Go m H H1) (b : Go m H1 H2) : Go m H H2 := fun x o h n => b x o (a x o h n) n
theorem Same.go {m : Mw} {H H' : Hp} (a : Same H H') : Go m H H' := fun x o h _ => a x o h
theorem same_new {H : Hp} {p : Addr} {o : HO} (h : H p = none) : Same H (upd H p o) := fun a u e => by
  rw [upd_ne (ne_of_none e h)]
  exact e
theorem Go.new {m : Mw} {H H1 : Hp} {p : Addr} {o : HO} (e : Go m H H1) (h : H1 p = none) : Go m H (upd H1 p o) := e.trans (Same.go (same_new h))

theorem goRd {m : Mw} {H H' : Hp} {a : Addr} {u : HO} (e : Go m H H') (n : ¬ m.ex a) (h : Rd H a u) : Rd H' a u := by
  rcases h with h | ⟨o, h⟩
  · exact .inl (e _ _ h (Mw.nmt n))
  · exact .inr ⟨o, e _ _ h (Mw.nmt n)⟩
theorem rd_there {H : Hp} {a : Addr} {u : HO} (h : Rd H a u) : H a ≠ none := by
  rcases h with h | ⟨o, h⟩
  · rw [h]; exact fun z => nomatch z
  · rw [h]; exact fun z => nomatch z
theorem XdAt.go {m : Mw} {H H' : Hp} {fn : List Str} {l : List D} {od : Option Addr} {vs : List V} (e : Go m H H') (h : XdAt m H fn l od vs) : XdAt m H' fn l od vs := by
  cases od with
  | some dx => exact ⟨h.1, e _ _ h.2 (Mw.nmt h.1)⟩
  | none => exact h
theorem XdAt.view {m m' : Mw} {H : Hp} {fn : List Str} {l : List D} {od : Option Addr} {vs : List V} (e : ∀ a, m'.ex a → m.ex a ∨ H a = none) (h : XdAt m H fn l od vs) : XdAt m' H fn l od vs := by
  cases od with
  | some dx => exact ⟨fun z => (e dx z).elim h.1 (rd_there (.inl h.2)), h.2⟩
  | none => exact h
mutual
theorem Rep.go {g : G} {m : Mw} {H H' : Hp} (e : Go m H H') : ∀ (d : D) (v : V), Rep g m H d v → Rep g m H' d v
  | .non, _, h => h
  | .bl _, _, h => h
  | .int _, _, h => h
  | .str _, _, h => h
  | .lst l, _, ⟨a, vs, hv, n, hs, hl⟩ => ⟨a, vs, hv, n, e _ _ hs (Mw.nmt n), RepL.go e l vs hl⟩
  | .tup l, _, ⟨a, vs, hv, n, hs, hl⟩ => ⟨a, vs, hv, n, e _ _ hs (Mw.nmt n), RepL.go e l vs hl⟩
  | .dct _ l, _, ⟨a, vs, hv, n, hk, hs, hl⟩ => ⟨a, vs, hv, n, hk, e _ _ hs (Mw.nmt n), RepL.go e l vs hl⟩
  | .obj _ l, _, ⟨a, dx, vs, hv, n, hk, hs, hl⟩ => ⟨a, dx, vs, hv, n, hk, e _ _ hs (Mw.nmt n), RepL.go e l vs hl⟩
  | .exc _ l, _, ⟨a, od, vs, hv, n, hk, hs, hx, hl⟩ => ⟨a, od, vs, hv, n, hk, e _ _ hs (Mw.nmt n), XdAt.go e hx, RepL.go e l vs hl⟩
  | .cls _, _, h => h
  | .ty _, _, h => h
  | .pen, _, h => h
theorem RepL.go {g : G} {m : Mw} {H H' : Hp} (e : Go m H H') : ∀ (ds : List D) (vs : List V), RepL g m H ds vs → RepL g m H' ds vs
  | [], _, h => h
  | d :: ds, _, ⟨x, xs, hv, h1, h2⟩ => ⟨x, xs, hv, Rep.go e d x h1, RepL.go e ds xs h2⟩
end
mutual
/-- another view of what stands apart -/
theorem Rep.view {g : G} {m m' : Mw} {H : Hp} (hp : m'.pen = m.pen) (e : ∀ a, m'.ex a → m.ex a ∨ H a = none) : ∀ (d : D) (v : V), Rep g m H d v → Rep g m' H d v
  | .non, _, h => h
  | .bl _, _, h => h
  | .int _, _, h => h
  | .str _, _, h => h
  | .lst l, _, ⟨a, vs, hv, n, hs, hl⟩ => ⟨a, vs, hv, fun z => (e a z).elim n (rd_there (.inl hs)), hs, RepL.view hp e l vs hl⟩
  | .tup l, _, ⟨a, vs, hv, n, hs, hl⟩ => ⟨a, vs, hv, fun z => (e a z).elim n (rd_there (.inl hs)), hs, RepL.view hp e l vs hl⟩
  | .dct _ l, _, ⟨a, vs, hv, n, hk, hs, hl⟩ => ⟨a, vs, hv, fun z => (e a z).elim n (rd_there (.inl hs)), hk, hs, RepL.view hp e l vs hl⟩
  | .obj _ l, _, ⟨a, dx, vs, hv, n, hk, hs, hl⟩ => ⟨a, dx, vs, hv, fun z => (e a z).elim n (rd_there (.inl hs)), hk, hs, RepL.view hp e l vs hl⟩
  | .exc _ l, _, ⟨a, od, vs, hv, n, hk, hs, hx, hl⟩ => ⟨a, od, vs, hv, fun z => (e a z).elim n (rd_there (.inl hs)), hk, hs, XdAt.view e hx, RepL.view hp e l vs hl⟩
  | .cls _, _, h => h
  | .ty _, _, h => h
  | .pen, _, ⟨p, h, k⟩ => ⟨p, hp.trans h, k⟩
theorem RepL.view {g : G} {m m' : Mw} {H : Hp} (hp : m'.pen = m.pen) (e : ∀ a, m'.ex a → m.ex a ∨ H a = none) : ∀ (ds : List D) (vs : List V), RepL g m H ds vs → RepL g m' H ds vs
  | [], _, h => h
  | d :: ds, _, ⟨x, xs, hv, h1, h2⟩ => ⟨x, xs, hv, Rep.view hp e d x h1, RepL.view hp e ds xs h2⟩
end
end DL

set_option Elab.async false
set_option linter.all false
set_option maxRecDepth 100000
set_option maxHeartbeats 4000000
namespace DL
open PySem L2

/-! ### lists of data -/
section
variable {g : G} {m : Mw} {H : Hp}
theorem RepL.length : ∀ {ds : List D} {vs : List V}, RepL g m H ds vs → ds.length = vs.length
  | [], _, h => by cases h; rfl
  | _ :: _, _, ⟨_, _, e, _, h⟩ => by subst e; simp [RepL.length h]
theorem RepL.get : ∀ {ds : List D} {vs : List V} {i : Nat} {d : D}, RepL g m H ds vs → ds[i]? = some d → ∃ v, vs[i]? = some v ∧ Rep g m H d v
  | [], _, _, _, _, e => by simp at e
  | _ :: _, _, 0, _, ⟨x, xs, e, h, _⟩, q => by subst e; simp at q; subst q; exact ⟨x, rfl, h⟩
  | _ :: ds, _, i + 1, d, ⟨x, xs, e, _, h⟩, q => by
    subst e
    obtain ⟨v, h1, h2⟩ := RepL.get (i := i) (d := d) h (by simpa using q)
    exact ⟨v, by simpa using h1, h2⟩
theorem RepL.get' : ∀ {ds : List D} {vs : List V} {i : Nat} {v : V}, RepL g m H ds vs → vs[i]? = some v → ∃ d, ds[i]? = some d ∧ Rep g m H d v
  | [], _, _, _, h, e => by cases h; simp at e
  | d :: _, _, 0, _, ⟨x, xs, e, h, _⟩, q => by subst e; simp at q; subst q; exact ⟨d, rfl, h⟩
  | _ :: ds, _, i + 1, v, ⟨x, xs, e, _, h⟩, q => by
    subst e
    obtain ⟨d, h1, h2⟩ := RepL.get' (i := i) (v := v) h (by simpa using q)
    exact ⟨d, by simpa using h1, h2⟩
theorem RepL.append : ∀ {ds es : List D} {vs ws : List V}, RepL g m H ds vs → RepL g m H es ws → RepL g m H (ds ++ es) (vs ++ ws)
  | [], _, _, _, h, k => by cases h; exact k
  | _ :: _, _, _, _, ⟨x, xs, e, h, r⟩, k => by subst e; exact ⟨x, xs ++ _, rfl, h, RepL.append r k⟩
theorem RepL.one {d : D} {v : V} (h : Rep g m H d v) : RepL g m H [d] [v] := ⟨v, [], rfl, h, rfl⟩
theorem RepL.cons {d : D} {ds : List D} {v : V} {vs : List V} (h : Rep g m H d v) (r : RepL g m H ds vs) : RepL g m H (d :: ds) (v :: vs) := ⟨v, vs, rfl, h, r⟩
theorem RepL.take : ∀ {ds : List D} {vs : List V} (n : Nat), RepL g m H ds vs → RepL g m H (ds.take n) (vs.take n)
  | _, _, 0, _ => rfl
  | [], _, _ + 1, h => by cases h; rfl
  | _ :: _, _, n + 1, ⟨x, xs, e, h, r⟩ => by subst e; exact ⟨x, xs.take n, rfl, h, RepL.take n r⟩
theorem RepL.drop : ∀ {ds : List D} {vs : List V} (n : Nat), RepL g m H ds vs → RepL g m H (ds.drop n) (vs.drop n)
  | _, _, 0, h => h
  | [], _, _ + 1, h => by cases h; rfl
  | _ :: _, _, n + 1, ⟨x, xs, e, h, r⟩ => by subst e; exact RepL.drop n r
theorem RepL.cons_inv {d : D} {ds : List D} {vs : List V} (h : RepL g m H (d :: ds) vs) : ∃ x xs, vs = x :: xs ∧ Rep g m H d x ∧ RepL g m H ds xs := h
end

/-! ### the pen -/
/-- a number of at most so many bits -/
def Big (b n : Nat) : Prop := n < 2 ^ (1048576 + b)
instance (b n : Nat) : Decidable (Big b n) := inferInstanceAs (Decidable (n < 2 ^ (1048576 + b)))
def PenOk (st : Pn) : Prop := st.xs.length ≤ 63 ∧ (∀ x ∈ st.xs, Big 1 x.natAbs) ∧ Big 4 st.left
def PenAt (g : G) (m : Mw) (H : Hp) (st : Pn) : Prop := (∀ a, m.ex a → H a ≠ none) ∧
  ∀ p, m.pen = some p → m.mt p ∧ PenOk st ∧ ∃ l, ¬ m.ex l ∧ H p = some (.lst [.ref l, .int st.at_, .int st.left]) ∧ H l = some (.lst (st.xs.map V.int))
theorem Same.rd {H H' : Hp} {a : Addr} {u : HO} (e : Same H H') (h : Rd H a u) : Rd H' a u := by
  rcases h with h | ⟨o, h⟩
  · exact .inl (e _ _ h)
  · exact .inr ⟨o, e _ _ h⟩
theorem PenAt.same {g : G} {m : Mw} {H H' : Hp} {st : Pn} (h : PenAt g m H st) (e : Same H H') : PenAt g m H' st := by
  refine ⟨fun a ha q => h.1 a ha (e.free q), fun p hp => ?_⟩
  obtain ⟨a, b, l, n, h1, h2⟩ := h.2 p hp
  exact ⟨a, b, l, n, e _ _ h1, e _ _ h2⟩
theorem PenAt.fresh {g : G} {m : Mw} {H : Hp} {st : Pn} {p : Addr} (h : PenAt g m H st) (n : H p = none) : ¬ m.ex p := fun z => h.1 p z n

/-! ### results -/
inductive R (α : Type) where
  | ok (a : α) (st : Pn)
  | err (c : Nat) (l : List D) (st : Pn)
  | bad
def R.bind {α β : Type} (r : R α) (k : α → Pn → R β) : R β := match r with
  | .ok a st => k a st
  | .err c l st => .err c l st
  | .bad => .bad
abbrev Ev := List (Option D)
abbrev F := Ev → Pn → R D
abbrev FA := Ev → Pn → R (List D)
abbrev FT := Ev → Pn → R Bool
inductive RS where
  | nx (ρ : Ev) (st : Pn) | rt (d : D) (st : Pn) | bk (ρ : Ev) (st : Pn) | ct (ρ : Ev) (st : Pn) | err (c : Nat) (l : List D) (ρ : Ev) (st : Pn) | bad
abbrev FS := Ev → Pn → RS

def EnvR (g : G) (m : Mw) (H : Hp) (σ : St) (ρ : Ev) : Prop := σ.length = ρ.length ∧ ∀ (i : Nat) d, ρ[i]? = some (some d) → ∃ v, σ[i]? = some (some v) ∧ Rep g m H d v
theorem EnvR.go {g : G} {m : Mw} {H H' : Hp} {σ : St} {ρ : Ev} (h : EnvR g m H σ ρ) (e : Go m H H') : EnvR g m H' σ ρ :=
  ⟨h.1, fun i d q => let ⟨v, h1, h2⟩ := h.2 i d q; ⟨v, h1, Rep.go e d v h2⟩⟩
theorem EnvR.set {g : G} {m : Mw} {H : Hp} {σ : St} {ρ : Ev} {i : Nat} {d : D} {v : V} (h : EnvR g m H σ ρ) (r : Rep g m H d v) : EnvR g m H (σ.set i (some v)) (ρ.set i (some d)) := by
  refine ⟨by simp [h.1], fun j e q => ?_⟩
  by_cases hj : i = j
  · subst hj
    by_cases hl : i < ρ.length
    · rw [List.getElem?_set_self hl] at q
      cases q
      exact ⟨v, List.getElem?_set_self (by rw [h.1]; exact hl), r⟩
    · rw [List.getElem?_eq_none (by simpa using hl)] at q
      cases q
  · rw [List.getElem?_set_ne hj] at q
    rw [List.getElem?_set_ne hj]
    exact h.2 j e q
theorem EnvR.unset {g : G} {m : Mw} {H : Hp} {σ : St} {ρ : Ev} {i : Nat} (o : Option V) (h : EnvR g m H σ ρ) : EnvR g m H (σ.set i o) (ρ.set i none) := by
  refine ⟨by simp [h.1], fun j e q => ?_⟩
  by_cases hj : i = j
  · subst hj
    by_cases hl : i < ρ.length
    · rw [List.getElem?_set_self hl] at q
      cases q
    · rw [List.getElem?_eq_none (by simpa using hl)] at q
      cases q
  · rw [List.getElem?_set_ne hj] at q
    rw [List.getElem?_set_ne hj]
    exact h.2 j e q

/-- what is wanted of an exception of the class c with the fields l -/
def KX (g : G) (m : Mw) (W : WX) (σ : St) (H : Hp) (c : Nat) (l : List D) (st : Pn) : Prop :=
  ∀ od vs H', Go m H H' → PenAt g m H' st → (g.fn c).length = l.length → XdAt m H' (g.fn c) l od vs → RepL g m H' l vs → W (.ref (g.ct c)) od σ H'
def After (g : G) (m : Mw) (W : WX) (σ : St) (H : Hp) {α : Type} (K : α → Pn → Prop) : R α → Prop
  | .ok a st => K a st
  | .err c l st => KX g m W σ H c l st
  | .bad => False
def KO (g : G) (m : Mw) (H : Hp) (Q : VK) (d : D) (st : Pn) : Prop := ∀ v H', Go m H H' → PenAt g m H' st → Rep g m H' d v → Q v H'
def KA (g : G) (m : Mw) (H : Hp) (Q : List V → Hp → Prop) (d : List D) (st : Pn) : Prop := ∀ v H', Go m H H' → PenAt g m H' st → RepL g m H' d v → Q v H'
def KT (g : G) (m : Mw) (H : Hp) (Q : Bool → Hp → Prop) (b : Bool) (st : Pn) : Prop := ∀ H', Go m H H' → PenAt g m H' st → Q b H'

def tD (g : G) (m : Mw) (W : WX) (f : F) : TE := fun σ H Q => ∃ ρ st, EnvR g m H σ ρ ∧ PenAt g m H st ∧ After g m W σ H (KO g m H Q) (f ρ st)
def tDA (g : G) (m : Mw) (W : WX) (f : FA) : TA := fun σ H Q => ∃ ρ st, EnvR g m H σ ρ ∧ PenAt g m H st ∧ After g m W σ H (KA g m H Q) (f ρ st)
def tDT (g : G) (m : Mw) (W : WX) (f : FT) : TT := fun σ H Q => ∃ ρ st, EnvR g m H σ ρ ∧ PenAt g m H st ∧ After g m W σ H (KT g m H Q) (f ρ st)

theorem KX.go {g : G} {m : Mw} {W : WX} {σ : St} {H H' : Hp} {c : Nat} {l : List D} {st : Pn} (h : KX g m W σ H c l st) (e : Go m H H') : KX g m W σ H' c l st :=
  fun od vs H2 e2 p z hd r => h od vs H2 (e.trans e2) p z hd r

section
variable {g : G} {m : Mw} {W : WX} {σ : St} {H0 H : Hp} {ρ : Ev} {st : Pn} {α : Type} {K : α → Pn → Prop}
/-- a part is evaluated, then the rest -/
theorem seqD {f : F} {k : D → Pn → R α} {C : VK} (g0 : Go m H0 H) (hE : EnvR g m H σ ρ) (hP : PenAt g m H st) (h : After g m W σ H0 K ((f ρ st).bind k))
    (hk : ∀ d st1 v H1, Go m H0 H1 → Go m H H1 → PenAt g m H1 st1 → Rep g m H1 d v → EnvR g m H1 σ ρ → After g m W σ H0 K (k d st1) → C v H1) : tD g m W f σ H C := by
  refine ⟨ρ, st, hE, hP, ?_⟩
  cases e : f ρ st with
  | ok d st1 =>
    rw [e] at h
    exact fun v H1 e1 p1 r1 => hk d st1 v H1 (g0.trans e1) e1 p1 r1 (hE.go e1) h
  | err c l st1 =>
    rw [e] at h
    exact KX.go h g0
  | bad =>
    rw [e] at h
    exact h
theorem seqA {f : FA} {k : List D → Pn → R α} {C : List V → Hp → Prop} (g0 : Go m H0 H) (hE : EnvR g m H σ ρ) (hP : PenAt g m H st) (h : After g m W σ H0 K ((f ρ st).bind k))
    (hk : ∀ d st1 v H1, Go m H0 H1 → Go m H H1 → PenAt g m H1 st1 → RepL g m H1 d v → EnvR g m H1 σ ρ → After g m W σ H0 K (k d st1) → C v H1) : tDA g m W f σ H C := by
  refine ⟨ρ, st, hE, hP, ?_⟩
  cases e : f ρ st with
  | ok d st1 =>
    rw [e] at h
    exact fun v H1 e1 p1 r1 => hk d st1 v H1 (g0.trans e1) e1 p1 r1 (hE.go e1) h
  | err c l st1 =>
    rw [e] at h
    exact KX.go h g0
  | bad =>
    rw [e] at h
    exact h
theorem seqT {f : FT} {k : Bool → Pn → R α} {C : Bool → Hp → Prop} (g0 : Go m H0 H) (hE : EnvR g m H σ ρ) (hP : PenAt g m H st) (h : After g m W σ H0 K ((f ρ st).bind k))
    (hk : ∀ b st1 H1, Go m H0 H1 → Go m H H1 → PenAt g m H1 st1 → EnvR g m H1 σ ρ → After g m W σ H0 K (k b st1) → C b H1) : tDT g m W f σ H C := by
  refine ⟨ρ, st, hE, hP, ?_⟩
  cases e : f ρ st with
  | ok d st1 =>
    rw [e] at h
    exact fun H1 e1 p1 => hk d st1 H1 (g0.trans e1) e1 p1 (hE.go e1) h
  | err c l st1 =>
    rw [e] at h
    exact KX.go h g0
  | bad =>
    rw [e] at h
    exact h
end

/-! ### a weaker reading -/
theorem PE.to {X : Cx} {e : Expr} {t t' : TE} (h : PE X e t) (w : ∀ σ H Q, t' σ H Q → t σ H Q) : PE X e t' := ⟨fun pins s σ H Q I q => h.run pins s σ H Q I (w σ H Q q)⟩
theorem PT.to {X : Cx} {e : Expr} {t t' : TT} (h : PT X e t) (w : ∀ σ H Q, t' σ H Q → t σ H Q) : PT X e t' := ⟨fun pins s σ H Q I q => h.run pins s σ H Q I (w σ H Q q)⟩
theorem PW.to {X : Cx} {e : Expr} {t t' : TT} (h : PW X e t) (w : ∀ σ H Q, t' σ H Q → t σ H Q) : PW X e t' := ⟨fun wh pins s σ H Q I q => h.run wh pins s σ H Q I (w σ H Q q)⟩
theorem PA.to {X : Cx} {e : List Expr} {t t' : TA} (h : PA X e t) (w : ∀ σ H Q, t' σ H Q → t σ H Q) : PA X e t' := ⟨fun pos pins s σ H Q I q => h.run pos pins s σ H Q I (w σ H Q q)⟩
theorem PS.to {X : Cx} {e : Stmt} {t t' : TS} (h : PS X e t) (w : ∀ D σ H, t' D σ H → t D σ H) : PS X e t' := ⟨fun pins s σ H D I q => h.run pins s σ H D I (w D σ H q)⟩
theorem PSs.to {X : Cx} {e : List Stmt} {t t' : TS} (h : PSs X e t) (w : ∀ D σ H, t' D σ H → t D σ H) : PSs X e t' := ⟨fun pins s σ H D I q => h.run pins s σ H D I (w D σ H q)⟩

/-! ### names and constants -/
def fVar (i : Nat) : F := fun ρ st => match ρ[i]? with | some (some d) => .ok d st | _ => .bad
def fC (d : D) : F := fun _ st => .ok d st
section
variable {X : Cx} {g : G} {m : Mw} {W : WX} {pos : Pos}
theorem d_var (i : Nat) {x : Str} (hN : X.N[i]? = some x := by rfl) (hv : Vis X.env.scope x := by first | exact Or.inl rfl | exact Or.inr (Or.inl rfl) | exact Or.inr (Or.inr rfl)) (hd : (x == ("__debug__" : Str)) = false := by decide)
    (hcd : (x == ("__classdict__" : Str)) = false := by decide) : PE X (.Name x pos) (tD g m W (fVar i)) :=
  PE.to (pe_var hN hv hd hcd) fun σ H Q ⟨ρ, st, hE, hP, h⟩ => by
    unfold fVar at h
    split at h
    · rename_i d e
      obtain ⟨v, h1, h2⟩ := hE.2 i d e
      exact ⟨v, h1, h v H (Go.refl m H) hP h2⟩
    · exact h.elim
theorem tD_c {v : V} {d : D} (r : ∀ H, Rep g m H d v) : ∀ σ H Q, tD g m W (fC d) σ H Q → tC v σ H Q := fun _ H _ ⟨_, _, _, hP, h⟩ => h v H (Go.refl m H) hP (r H)
theorem d_int {i j} : PE X (.Constant (.int i) j pos) (tD g m W (fC (.int i))) := PE.to pe_int (tD_c fun _ => rfl)
theorem d_bl {b j} : PE X (.Constant (.bool b) j pos) (tD g m W (fC (.bl b))) := PE.to pe_bl (tD_c fun _ => rfl)
theorem d_non {j} : PE X (.Constant .none j pos) (tD g m W (fC .non)) := PE.to pe_non (tD_c fun _ => rfl)
theorem d_str {x j} : PE X (.Constant (.str x) j pos) (tD g m W (fC (.str x))) := PE.to pe_str (tD_c fun _ => rfl)
/-- a name of the module: a constant, a class -/
theorem d_glob {x : Str} {v : V} {u : Value} {d : D} (hg : Gl X x) (hm : X.mg x = some u) (rv : RelV v u) (r : ∀ H, Rep g m H d v) (hd : (x == ("__debug__" : Str)) = false := by decide) : PE X (.Name x pos) (tD g m W (fC d)) :=
  PE.to (pe_glob hg hm rv hd) (tD_c r)
theorem d_bltn {x : Str} {v : V} {u : Value} {d : D} (hg : Gl X x) (hm : X.mg x = none) (hv : bootBuiltins x = some u) (rv : RelV v u) (r : ∀ H, Rep g m H d v) (hn : x ≠ "__name__" := by decide) (hd : (x == ("__debug__" : Str)) = false := by decide) : PE X (.Name x pos) (tD g m W (fC d)) :=
  PE.to (pe_bltn hg hm hv rv hn hd) (tD_c r)
end

/-! ### operators by values: pure ones -/
inductive RD where
  | ok (d : D) | bad
def RD.at (r : RD) (st : Pn) : R D := match r with
  | .ok d => .ok d st
  | .bad => .bad
/-- a pure operation on two values: what was there stays -/
def OpD (X : Cx) (g : G) (f : Value → Value → Sem Value) (o : D → D → RD) : Prop :=
  ∃ r, OpR X f r ∧ ∀ m H a b d x y (Q : VK), (∀ z, m.ex z → H z ≠ none) → o a b = .ok d → Rep g m H a x → Rep g m H b y → (∀ v H', Same H H' → Rep g m H' d v → Q v H') → r x y H Q
def UnD (X : Cx) (g : G) (f : Value → Sem Value) (o : D → RD) : Prop :=
  ∃ r, UnR X f r ∧ ∀ m H a d x (Q : VK), (∀ z, m.ex z → H z ≠ none) → o a = .ok d → Rep g m H a x → (∀ v H', Same H H' → Rep g m H' d v → Q v H') → r x H Q
def CallD (X : Cx) (g : G) (f : Value) (o : List D → RD) : Prop :=
  ∃ r, CallR X f r ∧ ∀ m H a d x (Q : VK), (∀ z, m.ex z → H z ≠ none) → o a = .ok d → RepL g m H a x → (∀ v H', Same H H' → Rep g m H' d v → Q v H') → r x H Q
def fOp (o : D → D → RD) (fa fb : F) : F := fun ρ st => (fa ρ st).bind fun a st1 => (fb ρ st1).bind fun b st2 => (o a b).at st2
def fUn (o : D → RD) (fa : F) : F := fun ρ st => (fa ρ st).bind fun a st1 => (o a).at st1
def fCB (o : List D → RD) (fa : FA) : F := fun ρ st => (fa ρ st).bind fun a st1 => (o a).at st1
section
variable {X : Cx} {g : G} {m : Mw} {W : WX} {pos : Pos} {a b : Expr} {fa fb : F}
theorem after_at {σ : St} {H0 H : Hp} {Q : VK} {r : RD} {st : Pn} (h : After g m W σ H0 (KO g m H0 Q) (r.at st)) (g0 : Go m H0 H) (hP : PenAt g m H st) : ∃ d, r = .ok d ∧ ∀ v H', Same H H' → Rep g m H' d v → Q v H' := by
  cases r with
  | ok d => exact ⟨d, rfl, fun v H' e rv => h v H' (g0.trans (Same.go e)) (hP.same e) rv⟩
  | bad => exact h.elim
theorem op_to {r : R2} {o : D → D → RD} (hr : ∀ m H a b d x y (Q : VK), (∀ z, m.ex z → H z ≠ none) → o a b = .ok d → Rep g m H a x → Rep g m H b y → (∀ v H', Same H H' → Rep g m H' d v → Q v H') → r x y H Q) :
    ∀ σ H Q, tD g m W (fOp o fa fb) σ H Q → tOp r (tD g m W fa) (tD g m W fb) σ H Q := fun σ H Q ⟨ρ, st, hE, hP, h⟩ =>
  seqD (Go.refl m H) hE hP h fun da st1 v1 H1 g1 _ p1 r1 e1 h1 => seqD g1 e1 p1 h1 fun db st2 v2 H2 g2 k2 p2 r2 e2 h2 => by
    obtain ⟨d, ed, q⟩ := after_at h2 g2 p2
    exact hr m H2 da db d v1 v2 Q p2.1 ed (Rep.go k2 _ _ r1) r2 q
theorem d_op {op : Operator} {o : D → D → RD} (ho : OpD X g (binaryOp op) o) (ha : PE X a (tD g m W fa)) (hb : PE X b (tD g m W fb)) : PE X (.BinOp a op b pos) (tD g m W (fOp o fa fb)) := by
  obtain ⟨r, h1, h2⟩ := ho
  exact PE.to (pe_op h1 ha hb) (op_to h2)
theorem d_un {op : UnaryOp} {o : D → RD} (ho : UnD X g (unaryOp op) o) (ha : PE X a (tD g m W fa)) : PE X (.UnaryOp op a pos) (tD g m W (fUn o fa)) := by
  obtain ⟨r, h1, h2⟩ := ho
  refine PE.to (pe_un h1 ha) fun σ H Q ⟨ρ, st, hE, hP, h⟩ => seqD (Go.refl m H) hE hP h fun da st1 v1 H1 g1 _ p1 r1 e1 h1 => ?_
  obtain ⟨d, ed, q⟩ := after_at h1 g1 p1
  exact h2 m H1 da d v1 Q p1.1 ed r1 q
theorem d_cmp {op : CmpOp} {o : D → D → RD} (ho : OpD X g (compareOp op) o) (ha : PE X a (tD g m W fa)) (hb : PE X b (tD g m W fb)) (hm : behindInMarks op b = false) : PE X (.Compare a [op] [b] pos) (tD g m W (fOp o fa fb)) := by
  obtain ⟨r, h1, h2⟩ := ho
  exact PE.to (pe_cmpR h1 ha hb hm) (op_to h2)
end

/-! ### tests -/
/-- a value that is True or False, as a test -/
def fB (f : F) : FT := fun ρ st => (f ρ st).bind fun d st1 => match d with | .bl b => .ok b st1 | _ => .bad
section
variable {X : Cx} {g : G} {m : Mw} {W : WX} {pos : Pos} {a b : Expr} {fa fb : F} {ta tb : FT}
theorem tB_of : ∀ σ H Q, tDT g m W (fB fa) σ H Q → tD g m W fa σ H fun x H' => ∃ k, x = .bl k ∧ Q k H' := fun σ H Q ⟨ρ, st, hE, hP, h⟩ =>
  seqD (Go.refl m H) hE hP h fun d st1 v1 H1 g1 _ p1 r1 e1 h1 => by
    cases d with
    | bl k => exact ⟨k, r1, h1 H1 g1 p1⟩
    | _ => exact h1.elim
theorem dt_val (h : PE X a (tD g m W fa)) (he : ∀ whole, isTrue a X.env whole = (do let v ← whole; standAt a.pos; holding [v] (truthy v)) := by intro _; rfl) : PT X a (tDT g m W (fB fa)) :=
  PT.to (pt_val h he) tB_of
theorem dt_cmp {op : CmpOp} {o : D → D → RD} (ho : OpD X g (compareOp op) o) (ha : PE X a (tD g m W fa)) (hb : PE X b (tD g m W fb)) (hm : behindInMarks op b = false) : PT X (.Compare a [op] [b] pos) (tDT g m W (fB (fOp o fa fb))) := by
  obtain ⟨r, h1, h2⟩ := ho
  exact PT.to (pt_cmpR h1 ha hb hm) fun σ H Q h => op_to h2 σ H _ (tB_of σ H Q h)
def fNotT (t : FT) : FT := fun ρ st => (t ρ st).bind fun b st1 => .ok (!b) st1
def fAndT (t u : FT) : FT := fun ρ st => (t ρ st).bind fun b st1 => if b then u ρ st1 else .ok false st1
def fOrT (t u : FT) : FT := fun ρ st => (t ρ st).bind fun b st1 => if b then .ok true st1 else u ρ st1
theorem dt_not (ha : PT X a (tDT g m W ta)) : PT X (.UnaryOp .Not a pos) (tDT g m W (fNotT ta)) :=
  PT.to (pt_not ha) fun σ H Q ⟨ρ, st, hE, hP, h⟩ => seqT (Go.refl m H) hE hP h fun b st1 H1 g1 _ p1 e1 h1 => h1 H1 g1 p1
variable {rest : List Expr}
theorem dw_and1 (ha : PT X a (tDT g m W ta)) : PW X (.BoolOp .And [a] pos) (tDT g m W ta) := pw_and1 ha
theorem dw_or1 (ha : PT X a (tDT g m W ta)) : PW X (.BoolOp .Or [a] pos) (tDT g m W ta) := pw_or1 ha
theorem go_kt {σ : St} {H0 H : Hp} {Q : Bool → Hp → Prop} {r : R Bool} (h : After g m W σ H0 (KT g m H0 Q) r) (e : Go m H0 H) : After g m W σ H (KT g m H Q) r := by
  cases r with
  | ok b st => exact fun H' e' p => h H' (e.trans e') p
  | err c l st => exact KX.go h e
  | bad => exact h
theorem go_ko {σ : St} {H0 H : Hp} {Q : VK} {r : R D} (h : After g m W σ H0 (KO g m H0 Q) r) (e : Go m H0 H) : After g m W σ H (KO g m H Q) r := by
  cases r with
  | ok b st => exact fun v H' e' p => h v H' (e.trans e') p
  | err c l st => exact KX.go h e
  | bad => exact h
theorem dw_and (ha : PT X a (tDT g m W ta)) (hb : PW X (.BoolOp .And (b :: rest) pos) (tDT g m W tb)) : PW X (.BoolOp .And (a :: b :: rest) pos) (tDT g m W (fAndT ta tb)) :=
  PW.to (pw_and ha hb) fun σ H Q ⟨ρ, st, hE, hP, h⟩ => seqT (Go.refl m H) hE hP h fun b st1 H1 g1 _ p1 e1 h1 => by
    cases b with
    | true => exact ⟨ρ, st1, e1, p1, go_kt h1 g1⟩
    | false => exact h1 H1 g1 p1
theorem dw_or (ha : PT X a (tDT g m W ta)) (hb : PW X (.BoolOp .Or (b :: rest) pos) (tDT g m W tb)) : PW X (.BoolOp .Or (a :: b :: rest) pos) (tDT g m W (fOrT ta tb)) :=
  PW.to (pw_or ha hb) fun σ H Q ⟨ρ, st, hE, hP, h⟩ => seqT (Go.refl m H) hE hP h fun b st1 H1 g1 _ p1 e1 h1 => by
    cases b with
    | true => exact h1 H1 g1 p1
    | false => exact ⟨ρ, st1, e1, p1, go_kt h1 g1⟩
/-- a if t else b -/
def fIf (t : FT) (fa fb : F) : F := fun ρ st => (t ρ st).bind fun b st1 => if b then fa ρ st1 else fb ρ st1
theorem d_ifExp {c : Expr} (hc : PT X c (tDT g m W ta)) (ha : PE X a (tD g m W fa)) (hb : PE X b (tD g m W fb)) : PE X (.IfExp c a b pos) (tD g m W (fIf ta fa fb)) :=
  PE.to (pe_ifExp hc ha hb) fun σ H Q ⟨ρ, st, hE, hP, h⟩ => seqT (Go.refl m H) hE hP h fun b st1 H1 g1 _ p1 e1 h1 => by
    cases b with
    | true => exact ⟨ρ, st1, e1, p1, go_ko h1 g1⟩
    | false => exact ⟨ρ, st1, e1, p1, go_ko h1 g1⟩
/-- and, or, not as values, of truth values (all but the last) -/
def fAndV (fa fb : F) : F := fun ρ st => (fa ρ st).bind fun d st1 => match d with | .bl true => fb ρ st1 | .bl false => .ok (.bl false) st1 | _ => .bad
def fOrV (fa fb : F) : F := fun ρ st => (fa ρ st).bind fun d st1 => match d with | .bl true => .ok (.bl true) st1 | .bl false => fb ρ st1 | _ => .bad
def fNotV (fa : F) : F := fun ρ st => (fa ρ st).bind fun d st1 => match d with | .bl b => .ok (.bl (!b)) st1 | _ => .bad
theorem d_one {op : BoolOp} (ha : PE X a (tD g m W fa)) : PE X (.BoolOp op [a] pos) (tD g m W fa) := pe_one ha
theorem d_and (ha : PE X a (tD g m W fa)) (hb : PE X (.BoolOp .And (b :: rest) pos) (tD g m W fb)) : PE X (.BoolOp .And (a :: b :: rest) pos) (tD g m W (fAndV fa fb)) :=
  PE.to (pe_and ha hb) fun σ H Q ⟨ρ, st, hE, hP, h⟩ => seqD (Go.refl m H) hE hP h fun d st1 v H1 g1 _ p1 r1 e1 h1 => by
    cases d with
    | bl b =>
      cases b with
      | true => exact ⟨true, r1, ρ, st1, e1, p1, go_ko h1 g1⟩
      | false => exact ⟨false, r1, h1 _ H1 g1 p1 rfl⟩
    | _ => exact h1.elim
theorem d_or (ha : PE X a (tD g m W fa)) (hb : PE X (.BoolOp .Or (b :: rest) pos) (tD g m W fb)) : PE X (.BoolOp .Or (a :: b :: rest) pos) (tD g m W (fOrV fa fb)) :=
  PE.to (pe_or ha hb) fun σ H Q ⟨ρ, st, hE, hP, h⟩ => seqD (Go.refl m H) hE hP h fun d st1 v H1 g1 _ p1 r1 e1 h1 => by
    cases d with
    | bl b =>
      cases b with
      | false => exact ⟨false, r1, ρ, st1, e1, p1, go_ko h1 g1⟩
      | true => exact ⟨true, r1, h1 _ H1 g1 p1 rfl⟩
    | _ => exact h1.elim
theorem d_not (ha : PE X a (tD g m W fa)) : PE X (.UnaryOp .Not a pos) (tD g m W (fNotV fa)) :=
  PE.to (pe_not ha) fun σ H Q ⟨ρ, st, hE, hP, h⟩ => seqD (Go.refl m H) hE hP h fun d st1 v H1 g1 _ p1 r1 e1 h1 => by
    cases d with
    | bl b => exact ⟨b, r1, h1 _ H1 g1 p1 rfl⟩
    | _ => exact h1.elim
end

/-! ### arguments, displays -/
def fNil : FA := fun _ st => .ok [] st
def fCons (f : F) (r : FA) : FA := fun ρ st => (f ρ st).bind fun d st1 => (r ρ st1).bind fun ds st2 => .ok (d :: ds) st2
def fLst (r : FA) : F := fun ρ st => (r ρ st).bind fun ds st1 => if ds.length ≤ 100000 then .ok (.lst ds) st1 else .bad
def fTup (r : FA) : F := fun ρ st => (r ρ st).bind fun ds st1 => if ds.length ≤ 100000 then .ok (.tup ds) st1 else .bad
theorem line_of {n : Nat} (h : n ≤ 100000) : n ≤ sizeLine := Nat.le_trans h (by decide)
theorem line_lt {n : Nat} (h : n < 100000) : n < sizeLine := Nat.lt_of_lt_of_le h (by decide)
section
variable {X : Cx} {g : G} {m : Mw} {W : WX} {pos : Pos} {e : Expr} {es : List Expr} {f : F} {fa : FA}
theorem da_nil : PA X [] (tDA g m W fNil) := PA.to pa_nil fun _ H _ ⟨_, _, _, hP, h⟩ => h [] H (Go.refl m H) hP rfl
theorem da_cons (ha : PE X e (tD g m W f)) (hr : PA X es (tDA g m W fa)) (hs : starEach (e :: es) X.env = (false, eval e X.env) :: starEach es X.env := by rfl) : PA X (e :: es) (tDA g m W (fCons f fa)) :=
  PA.to (pa_cons ha hr hs) fun σ H Q ⟨ρ, st, hE, hP, h⟩ => seqD (Go.refl m H) hE hP h fun d st1 v H1 g1 _ p1 r1 e1 h1 =>
    seqA g1 e1 p1 h1 fun ds st2 vs H2 g2 k2 p2 r2 e2 h2 => h2 (v :: vs) H2 g2 p2 (RepL.cons (Rep.go k2 _ _ r1) r2)
theorem d_lst (h : PA X es (tDA g m W fa)) : PE X (.List es pos) (tD g m W (fLst fa)) :=
  PE.to (pe_lst h) fun σ H Q ⟨ρ, st, hE, hP, h⟩ => seqA (Go.refl m H) hE hP h fun ds st1 vs H1 g1 _ p1 r1 e1 h1 => by
    by_cases hz : ds.length ≤ 100000
    · rw [if_pos hz] at h1
      refine ⟨by rw [← r1.length]; exact line_of hz, fun p hp => h1 _ _ (g1.new hp) (p1.same (same_new hp)) ?_⟩
      exact ⟨p, vs, rfl, p1.fresh hp, upd_same, RepL.go (Same.go (same_new hp)) _ _ r1⟩
    · rw [if_neg hz] at h1
      exact h1.elim
theorem d_tup {x1} (h : PA X es (tDA g m W fa)) : PE X (.Tuple es x1 pos) (tD g m W (fTup fa)) :=
  PE.to (pe_tup h) fun σ H Q ⟨ρ, st, hE, hP, h⟩ => seqA (Go.refl m H) hE hP h fun ds st1 vs H1 g1 _ p1 r1 e1 h1 => by
    by_cases hz : ds.length ≤ 100000
    · rw [if_pos hz] at h1
      refine ⟨by rw [← r1.length]; exact line_of hz, fun p hp => h1 _ _ (g1.new hp) (p1.same (same_new hp)) ?_⟩
      exact ⟨p, vs, rfl, p1.fresh hp, upd_same, RepL.go (Same.go (same_new hp)) _ _ r1⟩
    · rw [if_neg hz] at h1
      exact h1.elim
end
end DL

set_option Elab.async false
set_option linter.all false
set_option maxRecDepth 100000
set_option maxHeartbeats 4000000
namespace DL
open PySem L2

/-! ### statements -/
def AfterS (g : G) (m : Mw) (W : WX) (H : Hp) (Dn : Ends) : RS → Prop
  | .nx ρ st => ∀ σ' H', Go m H H' → PenAt g m H' st → EnvR g m H' σ' ρ → Dn.nx σ' H'
  | .bk ρ st => ∀ σ' H', Go m H H' → PenAt g m H' st → EnvR g m H' σ' ρ → Dn.bk σ' H'
  | .ct ρ st => ∀ σ' H', Go m H H' → PenAt g m H' st → EnvR g m H' σ' ρ → Dn.ct σ' H'
  | .rt d st => ∀ v H', Go m H H' → PenAt g m H' st → Rep g m H' d v → Dn.rt v H'
  | .err c l ρ st => ∀ σ' H', Go m H H' → EnvR g m H' σ' ρ → KX g m W σ' H' c l st
  | .bad => False
def tDS (g : G) (m : Mw) (W : WX) (f : FS) : TS := fun Dn σ H => ∃ ρ st, EnvR g m H σ ρ ∧ PenAt g m H st ∧ AfterS g m W H Dn (f ρ st)
def R.to {α : Type} (r : R α) (ρ : Ev) (k : α → Pn → RS) : RS := match r with
  | .ok a st => k a st
  | .err c l st => .err c l ρ st
  | .bad => .bad
section
variable {g : G} {m : Mw} {W : WX} {σ : St} {H0 H : Hp} {ρ : Ev} {st : Pn} {Dn : Ends}
theorem AfterS.go {r : RS} (h : AfterS g m W H0 Dn r) (e : Go m H0 H) : AfterS g m W H Dn r := by
  cases r with
  | nx => exact fun σ' H' e' => h σ' H' (e.trans e')
  | bk => exact fun σ' H' e' => h σ' H' (e.trans e')
  | ct => exact fun σ' H' e' => h σ' H' (e.trans e')
  | rt => exact fun v H' e' => h v H' (e.trans e')
  | err => exact fun σ' H' e' => h σ' H' (e.trans e')
  | bad => exact h
theorem seqDS {f : F} {k : D → Pn → RS} {C : VK} (hE : EnvR g m H σ ρ) (hP : PenAt g m H st) (h : AfterS g m W H Dn ((f ρ st).to ρ k))
    (hk : ∀ d st1 v H1, Go m H H1 → PenAt g m H1 st1 → Rep g m H1 d v → EnvR g m H1 σ ρ → AfterS g m W H1 Dn (k d st1) → C v H1) : tD g m W f σ H C := by
  refine ⟨ρ, st, hE, hP, ?_⟩
  cases e : f ρ st with
  | ok d st1 =>
    rw [e] at h
    exact fun v H1 e1 p1 r1 => hk d st1 v H1 e1 p1 r1 (hE.go e1) (AfterS.go h e1)
  | err c l st1 =>
    rw [e] at h
    exact h σ H (Go.refl m H) hE
  | bad =>
    rw [e] at h
    exact h
theorem seqAS {f : FA} {k : List D → Pn → RS} {C : List V → Hp → Prop} (hE : EnvR g m H σ ρ) (hP : PenAt g m H st) (h : AfterS g m W H Dn ((f ρ st).to ρ k))
    (hk : ∀ d st1 v H1, Go m H H1 → PenAt g m H1 st1 → RepL g m H1 d v → EnvR g m H1 σ ρ → AfterS g m W H1 Dn (k d st1) → C v H1) : tDA g m W f σ H C := by
  refine ⟨ρ, st, hE, hP, ?_⟩
  cases e : f ρ st with
  | ok d st1 =>
    rw [e] at h
    exact fun v H1 e1 p1 r1 => hk d st1 v H1 e1 p1 r1 (hE.go e1) (AfterS.go h e1)
  | err c l st1 =>
    rw [e] at h
    exact h σ H (Go.refl m H) hE
  | bad =>
    rw [e] at h
    exact h
theorem seqTS {f : FT} {k : Bool → Pn → RS} {C : Bool → Hp → Prop} (hE : EnvR g m H σ ρ) (hP : PenAt g m H st) (h : AfterS g m W H Dn ((f ρ st).to ρ k))
    (hk : ∀ b st1 H1, Go m H H1 → PenAt g m H1 st1 → EnvR g m H1 σ ρ → AfterS g m W H1 Dn (k b st1) → C b H1) : tDT g m W f σ H C := by
  refine ⟨ρ, st, hE, hP, ?_⟩
  cases e : f ρ st with
  | ok d st1 =>
    rw [e] at h
    exact fun H1 e1 p1 => hk d st1 H1 e1 p1 (hE.go e1) (AfterS.go h e1)
  | err c l st1 =>
    rw [e] at h
    exact h σ H (Go.refl m H) hE
  | bad =>
    rw [e] at h
    exact h
end

/-! ### targets -/
abbrev FG := D → Ev → Option Ev
def tDG (g : G) (m : Mw) (f : FG) : TG := fun v σ H Q => ∃ d ρ ρ', Rep g m H d v ∧ EnvR g m H σ ρ ∧ f d ρ = some ρ' ∧ ∀ σ', EnvR g m H σ' ρ' → Q σ' H
abbrev FGs := List D → Ev → Option Ev
def tDGs (g : G) (m : Mw) (f : FGs) : TGs := fun vs σ H Q => ∃ ds ρ ρ', RepL g m H ds vs ∧ EnvR g m H σ ρ ∧ f ds ρ = some ρ' ∧ ∀ σ', EnvR g m H σ' ρ' → Q σ' H
def gN (i : Nat) : FG := fun d ρ => some (ρ.set i (some d))
def gs0 : FGs := fun ds ρ => match ds with | [] => some ρ | _ => none
def gsC (f : FG) (r : FGs) : FGs := fun ds ρ => match ds with | d :: ds => (f d ρ).bind fun ρ' => r ds ρ' | [] => none
def gTp (n : Nat) (r : FGs) : FG := fun d ρ => match d with | .tup ds => if ds.length = n then r ds ρ else none | _ => none
theorem PG.to {X : Cx} {e : Expr} {t t' : TG} (h : PG X e t) (w : ∀ v σ H Q, t' v σ H Q → t v σ H Q) : PG X e t' := ⟨fun pins s σ H v u Q I r q => h.run pins s σ H v u Q I r (w v σ H Q q)⟩
theorem PGs.to {X : Cx} {e : List Expr} {t t' : TGs} (h : PGs X e t) (w : ∀ v σ H Q, t' v σ H Q → t v σ H Q) : PGs X e t' := ⟨fun pins s σ H v u Q I r q => h.run pins s σ H v u Q I r (w v σ H Q q)⟩
section
variable {X : Cx} {g : G} {m : Mw} {W : WX} {pos : Pos}
theorem dg_name (i : Nat) {x : Str} (hN : X.N.Nodup) (hi : X.N[i]? = some x := by rfl) (hx : Loc X.env.scope x := by first | exact Or.inl rfl | exact Or.inr rfl) (hf : X.fn x = true ∨ X.env.scope.names.lookup x = some .local := by first | exact .inl rfl | exact .inr rfl | assumption) : PG X (.Name x pos) (tDG g m (gN i)) :=
  PG.to (pg_name hN hi hx hf) fun v σ H Q ⟨d, ρ, ρ', r, hE, e, q⟩ => q _ (by cases e; exact hE.set r)
theorem dgs_nil : PGs X [] (tDGs g m gs0) := PGs.to pgs_nil fun vs σ H Q ⟨ds, ρ, ρ', r, hE, e, q⟩ => by
  cases ds with
  | nil => cases r; cases e; exact ⟨rfl, q _ hE⟩
  | cons => cases e
theorem dgs_cons {e : Expr} {es : List Expr} {f : FG} {r : FGs} (h1 : PG X e (tDG g m f)) (h2 : PGs X es (tDGs g m r))
    (hs : (assignEach (e :: es) X.env).map (·.2) = assign e X.env :: (assignEach es X.env).map (·.2) := by rfl) : PGs X (e :: es) (tDGs g m (gsC f r)) :=
  PGs.to (pgs_cons h1 h2 hs) fun vs σ H Q ⟨ds, ρ, ρ', rr, hE, e, q⟩ => by
    cases ds with
    | nil => cases e
    | cons d ds =>
      obtain ⟨x, xs, ev, h1, h2⟩ := rr
      obtain ⟨ρ1, e1, e2⟩ := Option.bind_eq_some_iff.mp e
      exact ⟨x, xs, ev, d, ρ, ρ1, h1, hE, e1, fun σ' hE' => ⟨ds, ρ1, ρ', h2, hE', e2, q⟩⟩
theorem dg_tup {es : List Expr} {k : Nat} {r : FGs} {n : Nat} (hc : X.calm = true) (hK : g.K = X.K) (h : PGs X es (tDGs g m r)) (hn : (assignEach es X.env).length = n := by rfl) (hst : (assignEach es X.env).findIdx? (·.1) = none := by rfl) :
    PG X (.Tuple es k pos) (tDG g m (gTp n r)) :=
  PG.to (pg_tup hc h hn hst) fun v σ H Q ⟨d, ρ, ρ', rr, hE, e, q⟩ => by
    unfold gTp at e
    split at e
    · rename_i ds
      split at e
      · rename_i hl
        obtain ⟨a, vs, ev, _, hs, hr⟩ := rr
        exact ⟨a, vs, ev, SqT.of hs, by rw [← hr.length]; exact hl, ds, ρ, ρ', hr, hE, e, q⟩
      · cases e
    · cases e
end

/-! ### blocks -/
def fNext : FS := fun ρ st => .nx ρ st
def fSeq (f k : FS) : FS := fun ρ st => match f ρ st with
  | .nx ρ' st' => k ρ' st'
  | r => r
def fSet (fg : FG) (f : F) : FS := fun ρ st => (f ρ st).to ρ fun d st1 => match fg d ρ with | some ρ' => .nx ρ' st1 | none => .bad
def fPar (i j : Nat) (f : FA) : FS := fun ρ st => (f ρ st).to ρ fun ds st1 => match ds with | [a, b] => .nx ((ρ.set i (some a)).set j (some b)) st1 | _ => .bad
def fRet (f : F) : FS := fun ρ st => (f ρ st).to ρ fun d st1 => .rt d st1
def fDrop (f : F) : FS := fun ρ st => (f ρ st).to ρ fun _ st1 => .nx ρ st1
def fIfS (t : FT) (f k : FS) : FS := fun ρ st => (t ρ st).to ρ fun b st1 => if b then f ρ st1 else k ρ st1
section
variable {X : Cx} {g : G} {m : Mw} {W : WX} {pos : Pos} {s1 : Stmt} {rest : List Stmt} {e : Expr} {f : F} {k k2 : FS} {t : FT} {fa : FA}
theorem ds_nil : PSs X [] (tDS g m W fNext) := PSs.to pss_nil fun Dn σ H ⟨ρ, st, hE, hP, h⟩ => h σ H (Go.refl m H) hP hE
theorem ds_cons (h1 : PS X s1 (tDS g m W k)) (h2 : PSs X rest (tDS g m W k2)) : PSs X (s1 :: rest) (tDS g m W (fSeq k k2)) :=
  PSs.to (pss_cons h1 h2) fun Dn σ H ⟨ρ, st, hE, hP, h⟩ => by
    refine ⟨ρ, st, hE, hP, ?_⟩
    unfold fSeq at h
    cases e : k ρ st with
    | nx ρ' st' =>
      rw [e] at h
      exact fun σ' H' g1 p1 e1 => ⟨ρ', st', e1, p1, AfterS.go h g1⟩
    | bk => rw [e] at h; exact h
    | ct => rw [e] at h; exact h
    | rt => rw [e] at h; exact h
    | err => rw [e] at h; exact h
    | bad => rw [e] at h; exact h
theorem ds_one (h1 : PS X s1 (tDS g m W k)) : PSs X [s1] (tDS g m W k) := pss_one h1
theorem ds_set (i : Nat) {x : Str} {pos' : Pos} (hN : X.N.Nodup) (he : PE X e (tD g m W f)) (hi : X.N[i]? = some x := by rfl) (hx : Loc X.env.scope x := by first | exact Or.inl rfl | exact Or.inr rfl) (hs : swapsWith e (some (.Name x pos')) pos.line X.env = pure false := by rfl)
    (hf : X.fn x = true ∨ X.env.scope.names.lookup x = some .local := by first | exact .inl rfl | exact .inr rfl | assumption) : PS X (.Assign [.Name x pos'] e pos) (tDS g m W (fSet (gN i) f)) :=
  PS.to (ps_set hN hi hx he hs hf) fun Dn σ H ⟨ρ, st, hE, hP, h⟩ => seqDS hE hP h fun d st1 v H1 g1 p1 r1 e1 h1 => h1 _ H1 (Go.refl m H1) p1 (e1.set r1)
theorem ds_asg {tg : Expr} {fg : FG} (he : PE X e (tD g m W f)) (hg : PG X tg (tDG g m fg)) (hs : swapsWithSole [tg] e pos.line X.env = pure false := by rfl) (hw : swappedStores [tg] e X.env = pure none := by rfl)
    (h1 : (assignEach [tg] X.env).map (·.2) = [assign tg X.env] := by rfl) : PS X (.Assign [tg] e pos) (tDS g m W (fSet fg f)) :=
  PS.to (ps_asg he hg hs hw h1) fun Dn σ H ⟨ρ, st, hE, hP, h⟩ => seqDS hE hP h fun d st1 v H1 g1 p1 r1 e1 h1 => by
    split at h1
    · rename_i ρ' q
      exact ⟨d, ρ, ρ', r1, e1, q, fun σ' hE' => h1 σ' H1 (Go.refl m H1) p1 hE'⟩
    · exact h1.elim
theorem ds_par (i j : Nat) {x y : Str} {a b : Expr} {px py pt : Pos} {kt k2 pt2} (hc : X.calm = true) (hN : X.N.Nodup) (ha : PA X [a, b] (tDA g m W fa)) (hij : i ≠ j := by decide) (hi : X.N[i]? = some x := by rfl) (hj : X.N[j]? = some y := by rfl)
    (hx : X.env.scope.names.lookup x = some .local := by rfl) (hy : X.env.scope.names.lookup y = some .local := by rfl)
    (hw : swappedStores [.Tuple [.Name x px, .Name y py] kt pt] (.Tuple [a, b] k2 pt2) X.env = pure (some [x, y]) := by rfl)
    (hs : swapsWithSole [.Tuple [.Name x px, .Name y py] kt pt] (.Tuple [a, b] k2 pt2) pos.line X.env = pure false := by rfl) :
    PS X (.Assign [.Tuple [.Name x px, .Name y py] kt pt] (.Tuple [a, b] k2 pt2) pos) (tDS g m W (fPar i j fa)) :=
  PS.to (ps_par hc hN hi hj hij hx hy ha hw hs) fun Dn σ H ⟨ρ, st, hE, hP, h⟩ => seqAS hE hP h fun ds st1 vs H1 g1 p1 r1 e1 h1 => by
    split at h1
    · obtain ⟨v, _, rfl, rv, w, _, rfl, rw', e⟩ := r1
      cases e
      exact ⟨v, w, rfl, h1 _ H1 (Go.refl m H1) p1 ((e1.set rv).set rw')⟩
    · exact h1.elim
theorem ds_ret (he : PE X e (tD g m W f)) : PS X (.Return (some e) pos) (tDS g m W (fRet f)) :=
  PS.to (ps_ret he) fun Dn σ H ⟨ρ, st, hE, hP, h⟩ => seqDS hE hP h fun d st1 v H1 g1 p1 r1 e1 h1 => h1 v H1 (Go.refl m H1) p1 r1
theorem ds_retN : PS X (.Return none pos) (tDS g m W (fRet (fC .non))) :=
  PS.to ps_retN fun Dn σ H ⟨ρ, st, hE, hP, h⟩ => h .non H (Go.refl m H) hP rfl
theorem ds_expr (he : PE X e (tD g m W f)) (hs : swapsWith e none pos.line X.env = pure false := by rfl) : PS X (.Expr e pos) (tDS g m W (fDrop f)) :=
  PS.to (ps_expr he hs) fun Dn σ H ⟨ρ, st, hE, hP, h⟩ => seqDS hE hP h fun d st1 v H1 g1 p1 r1 e1 h1 => h1 σ H1 (Go.refl m H1) p1 e1
theorem ds_pass : PS X (.Pass pos) (tDS g m W fNext) := PS.to ps_pass fun Dn σ H ⟨ρ, st, hE, hP, h⟩ => h σ H (Go.refl m H) hP hE
theorem ds_break : PS X (.Break pos) (tDS g m W fun ρ st => .bk ρ st) := PS.to ps_break fun Dn σ H ⟨ρ, st, hE, hP, h⟩ => h σ H (Go.refl m H) hP hE
theorem ds_continue : PS X (.Continue pos) (tDS g m W fun ρ st => .ct ρ st) := PS.to ps_continue fun Dn σ H ⟨ρ, st, hE, hP, h⟩ => h σ H (Go.refl m H) hP hE
theorem ds_if {c : Expr} {a b : List Stmt} (hc : PT X c (tDT g m W t)) (ha : PSs X a (tDS g m W k)) (hb : PSs X b (tDS g m W k2)) : PS X (.If c a b pos) (tDS g m W (fIfS t k k2)) :=
  PS.to (ps_if hc ha hb) fun Dn σ H ⟨ρ, st, hE, hP, h⟩ => seqTS hE hP h fun b st1 H1 g1 p1 e1 h1 => by
    cases b with
    | true => exact ⟨ρ, st1, e1, p1, h1⟩
    | false => exact ⟨ρ, st1, e1, p1, h1⟩
/-- code that is never come to -/
theorem ds_never : PS X s1 (tDS g m W fun _ _ => .bad) := PS.to ps_never fun Dn σ H ⟨ρ, st, hE, hP, h⟩ => h
end

/-! ### what is walked -/
/-- another view of what stands apart: the same changes, and nothing is hidden that is there -/
structure View (m m' : Mw) (H : Hp) : Prop where
  pen : m'.pen = m.pen
  mt : m'.mt = m.mt
  hd : ∀ a, m'.hd a → m.hd a ∨ H a = none
theorem View.refl (m : Mw) (H : Hp) : View m m H := ⟨rfl, rfl, fun _ h => .inl h⟩
theorem View.hide {m : Mw} {H : Hp} {p : Addr} (h : H p = none) : View m (m.hide p) H := ⟨rfl, rfl, fun a ha => ha.elim .inl fun z => .inr (by rw [z]; exact h)⟩
theorem View.ex {m m' : Mw} {H : Hp} (v : View m m' H) : ∀ a, m'.ex a → m.ex a ∨ H a = none := fun a h => by
  rcases h with h | h
  · rw [v.mt] at h
    exact .inl (.inl h)
  · exact (v.hd a h).elim (fun z => .inl (.inr z)) .inr
/-- from the heap H on, the iterator gives just these, and leaves all as it is -/
def Walks1 (g : G) (m : Mw) (J : It) (H : Hp) (ds : List D) : Prop :=
  ∀ (i : Nat) H', Go m H H' → (∀ d, ds[i]? = some d → J.go i H' ∧ ∀ x H'', J.yld i H' x H'' → Same H' H'' ∧ ((∀ a, m.ex a → H' a ≠ none) → Rep g m H'' d x)) ∧ (ds.length ≤ i → J.stop i H')
def Walks (g : G) (m : Mw) (J : It) (H : Hp) (ds : List D) : Prop := ∀ m', View m m' H → Walks1 g m' J H ds
def tDI (g : G) (m : Mw) (W : WX) (f : FA) : TI := fun σ H R => ∃ ρ st, EnvR g m H σ ρ ∧ PenAt g m H st ∧ After g m W σ H (fun ds st' => ∀ J H', Go m H H' → PenAt g m H' st' → Walks g m J H' ds → R J H') (f ρ st)
theorem PI.to {X : Cx} {tg e : Expr} {t t' : TI} (h : PI X tg e t) (w : ∀ σ H R, t' σ H R → t σ H R) : PI X tg e t' := ⟨fun pins s σ H R I q => h.run pins s σ H R I (w σ H R q)⟩
section
variable {g : G} {m : Mw} {H : Hp} {a : Addr} {vs : List V} {ds : List D}
theorem walks_list (K : PySem.W.Frag) (n : ¬ m.ex a) (hs : Rd H a (.lst vs)) (hr : RepL g m H ds vs) : Walks g m (Itl K a) H ds := by
  intro m' v i H' e
  have n' : ¬ m'.ex a := fun z => (v.ex a z).elim n (rd_there hs)
  have hs' : Rd H' a (.lst vs) := goRd e n' hs
  refine ⟨fun d hd => ?_, fun hl => ⟨vs, .inl hs', by rw [← hr.length]; exact hl⟩⟩
  obtain ⟨x0, h1, h2⟩ := (RepL.view v.pen v.ex _ _ hr).get hd
  refine ⟨⟨vs, x0, .inl hs', h1⟩, fun x H'' y => ?_⟩
  obtain ⟨e2, y⟩ := y
  subst e2
  have q := y vs (.inl hs')
  rw [h1] at q
  cases q
  exact ⟨Same.refl _, fun _ => Rep.go e d _ h2⟩
theorem walks_tup (K : PySem.W.Frag) (n : ¬ m.ex a) (hs : Rd H a (.tup vs)) (hr : RepL g m H ds vs) : Walks g m (Itt K a) H ds := by
  intro m' v i H' e
  have n' : ¬ m'.ex a := fun z => (v.ex a z).elim n (rd_there hs)
  have hs' : Rd H' a (.tup vs) := goRd e n' hs
  refine ⟨fun d hd => ?_, fun hl => ⟨vs, .inl hs', by rw [← hr.length]; exact hl⟩⟩
  obtain ⟨x0, h1, h2⟩ := (RepL.view v.pen v.ex _ _ hr).get hd
  refine ⟨⟨vs, x0, .inl hs', h1⟩, fun x H'' y => ?_⟩
  obtain ⟨e2, y⟩ := y
  subst e2
  have q := y vs (.inl hs')
  rw [h1] at q
  cases q
  exact ⟨Same.refl _, fun _ => Rep.go e d _ h2⟩
/-- lo, lo + 1, .. -/
def rngD (lo : Int) (n : Nat) : List D := (List.range n).map fun (i : Nat) => D.int (lo + (i : Int))
theorem walks_range (lo : Int) (n : Nat) : Walks g m (Itr lo n) H (rngD lo n) := by
  intro m' v i H' e
  refine ⟨fun d hd => ?_, fun hl => ?_⟩
  · unfold rngD at hd
    rw [List.getElem?_map] at hd
    by_cases hi : i < n
    · rw [List.getElem?_range hi] at hd
      cases hd
      refine ⟨hi, fun x H'' y => ?_⟩
      obtain ⟨e2, y⟩ := y
      subst e2 y
      exact ⟨Same.refl _, fun _ => rfl⟩
    · rw [List.getElem?_eq_none (by simpa using hi)] at hd
      cases hd
  · unfold rngD at hl
    show n ≤ i
    simpa using hl
end
/-- a list or a tuple -/
def fItems (f : F) : FA := fun ρ st => (f ρ st).bind fun d st1 => match d with | .lst l => .ok l st1 | .tup l => .ok l st1 | _ => .bad
section
variable {X : Cx} {g : G} {m : Mw} {W : WX} {pos : Pos} {tg e : Expr} {f : F} {fa : FA}
theorem after_fi {σ : St} {H0 : Hp} {R : It → Hp → Prop} {d : D} {st : Pn} {x : V} {H1 : Hp}
    (h : After g m W σ H0 (fun ds st' => ∀ J H', Go m H0 H' → PenAt g m H' st' → Walks g m J H' ds → R J H') (match d with | .lst l => .ok l st | .tup l => .ok l st | _ => .bad)) (g1 : Go m H0 H1) (p1 : PenAt g m H1 st) (r : Rep g m H1 d x) :
    ∃ a, x = .ref a ∧ ((∃ vs, Rd H1 a (.lst vs) ∧ R (Itl X.K a) H1) ∨ (∃ vs, Rd H1 a (.tup vs) ∧ R (Itt X.K a) H1)) := by
  cases d with
  | lst l =>
    obtain ⟨a, vs, e, n, hs, hr⟩ := r
    exact ⟨a, e, .inl ⟨vs, .inl hs, h _ H1 g1 p1 (walks_list X.K n (.inl hs) hr)⟩⟩
  | tup l =>
    obtain ⟨a, vs, e, n, hs, hr⟩ := r
    exact ⟨a, e, .inr ⟨vs, .inl hs, h _ H1 g1 p1 (walks_tup X.K n (.inl hs) hr)⟩⟩
  | _ => exact h.elim
theorem di_items (he : PE X e (tD g m W f)) : PI X tg e (tDI g m W (fItems f)) := by
  refine ⟨fun pins s σ H R I ⟨ρ, st, hE, hP, h⟩ => ?_⟩
  have h2 : tD g m W f σ H (fun x H1 => ∃ a, x = .ref a ∧ ((∃ vs, Rd H1 a (.lst vs) ∧ R (Itl X.K a) H1) ∨ (∃ vs, Rd H1 a (.tup vs) ∧ R (Itt X.K a) H1))) :=
    seqD (Go.refl m H) hE hP h fun d st1 v H1 g1 _ p1 r1 e1 h1 => after_fi h1 g1 p1 r1
  refine thn (he.run pins s σ H _ I h2) fun v s1 ⟨x, H1, I1, r1, q1⟩ => ?_
  obtain ⟨a, ex, q⟩ := q1
  subst ex
  cases r1
  have fp : ∀ b ∈ [s1.heap.objs.size], FpOk X pins H1 b := fun b hb => by
    have e : b = s1.heap.objs.size := by simpa using hb
    subst e
    exact I1.fpOk (Nat.le_refl _) (I1.hok.fresh (Nat.le_refl _))
  rcases q with ⟨vs, hs, q⟩ | ⟨vs, hs, q⟩
  · obtain ⟨its, rv, p, hz⟩ := I1.list (X := X) (.inl hs)
    refine wpAny_pyIter_list p.isList ⟨_, _, _, _, H1, rfl, ?_, turn_list a _, ⟨_, Heap.get?_push_size _ rfl, rfl, rfl⟩, fp, q⟩
    exact I1.kept (t' := s1.toks) fun b o e => Heap.get?_push_of_some _ e
  · obtain ⟨its, rv, p, hz⟩ := I1.tuple (X := X) (.inl hs)
    refine wpAny_pyIter_tuple (show s1.heap.IsTuple a its.toArray from p) ⟨_, _, _, _, H1, rfl, ?_, turn_tuple a _, ⟨_, Heap.get?_push_size _ rfl, rfl, rfl⟩, fp, q⟩
    exact I1.kept (t' := s1.toks) fun b o e => Heap.get?_push_of_some _ e
/-- range(n), range(a, b) -/
def fRng1 (fa : FA) : FA := fun ρ st => (fa ρ st).bind fun ds st1 => match ds with | [.int j] => if -1000000 ≤ j ∧ j ≤ 1000000 then .ok (rngD 0 j.toNat) st1 else .bad | _ => .bad
def fRng2 (fa : FA) : FA := fun ρ st => (fa ρ st).bind fun ds st1 => match ds with | [.int i, .int j] => if (-1000000 ≤ i ∧ i ≤ 1000000) ∧ -1000000 ≤ j ∧ j ≤ 1000000 then .ok (rngD i (j - i).toNat) st1 else .bad | _ => .bad
theorem di_range1 {a : Expr} {p : Pos} (hg : Gl X "range") (hm : X.mg "range" = none) (ha : PA X [a] (tDA g m W fa)) (hs : starEach [a] X.env = [(false, eval a X.env)] := by rfl) : PI X tg (.Call (.Name "range" p) [a] [] pos) (tDI g m W (fRng1 fa)) :=
  PI.to (pi_range1 hg hm ha hs) fun σ H R ⟨ρ, st, hE, hP, h⟩ => seqA (Go.refl m H) hE hP h fun ds st1 vs H1 g1 _ p1 r1 e1 h1 => by
    split at h1
    · rename_i j
      split at h1
      · rename_i hj
        obtain ⟨v, _, rfl, rv, e⟩ := r1
        cases e
        cases rv
        refine ⟨j, rfl, ?_, ?_, h1 _ H1 g1 p1 (walks_range 0 _)⟩
        · have : (-(2 ^ 62) : Int) ≤ -1000000 := by decide
          omega
        · have : (1000000 : Int) < 2 ^ 62 := by decide
          omega
      · exact h1.elim
    · exact h1.elim
theorem di_range2 {a b : Expr} {p : Pos} (hg : Gl X "range") (hm : X.mg "range" = none) (ha : PA X [a, b] (tDA g m W fa)) (hs : starEach [a, b] X.env = [(false, eval a X.env), (false, eval b X.env)] := by rfl) (hs2 : starEach [b] X.env = [(false, eval b X.env)] := by rfl) :
    PI X tg (.Call (.Name "range" p) [a, b] [] pos) (tDI g m W (fRng2 fa)) :=
  PI.to (pi_range2 hg hm ha hs hs2) fun σ H R ⟨ρ, st, hE, hP, h⟩ => seqA (Go.refl m H) hE hP h fun ds st1 vs H1 g1 _ p1 r1 e1 h1 => by
    split at h1
    · rename_i i j
      split at h1
      · rename_i hj
        obtain ⟨v, _, rfl, rv, w, _, rfl, rw', e⟩ := r1
        cases e
        cases rv
        cases rw'
        have h3 : (-(2 ^ 62) : Int) ≤ -1000000 := by decide
        have h4 : (1000000 : Int) < 2 ^ 62 := by decide
        exact ⟨i, j, rfl, ⟨by omega, by omega, by omega, by omega⟩, h1 _ H1 g1 p1 (walks_range i _)⟩
      · exact h1.elim
    · exact h1.elim
end

/-! ### for -/
def loopS (fg : FG) (fb : FS) : List D → FS
  | [], ρ, st => .nx ρ st
  | d :: ds, ρ, st => match fg d ρ with
    | none => .bad
    | some ρ1 => match fb ρ1 st with
      | .nx ρ' st' => loopS fg fb ds ρ' st'
      | .ct ρ' st' => loopS fg fb ds ρ' st'
      | .bk ρ' st' => .nx ρ' st'
      | .rt d st' => .rt d st'
      | .err c l ρ' st' => .err c l ρ' st'
      | .bad => .bad
def fFor (fi : FA) (fg : FG) (fb : FS) : FS := fun ρ st => (fi ρ st).to ρ fun ds st1 => loopS fg fb ds ρ st1
section
variable {X : Cx} {g : G} {m : Mw} {W : WX} {pos : Pos} {tg iter : Expr} {body : List Stmt} {fi : FA} {fg : FG} {fb : FS}
theorem seqIS {σ : St} {H : Hp} {ρ : Ev} {st : Pn} {Dn : Ends} {k : List D → Pn → RS} {C : It → Hp → Prop} (hE : EnvR g m H σ ρ) (hP : PenAt g m H st) (h : AfterS g m W H Dn ((fi ρ st).to ρ k))
    (hk : ∀ ds st1 J H1, Go m H H1 → PenAt g m H1 st1 → Walks g m J H1 ds → EnvR g m H1 σ ρ → AfterS g m W H1 Dn (k ds st1) → C J H1) : tDI g m W fi σ H C := by
  refine ⟨ρ, st, hE, hP, ?_⟩
  cases e : fi ρ st with
  | ok d st1 =>
    rw [e] at h
    exact fun J H1 e1 p1 r1 => hk d st1 J H1 e1 p1 r1 (hE.go e1) (AfterS.go h e1)
  | err c l st1 =>
    rw [e] at h
    exact h σ H (Go.refl m H) hE
  | bad =>
    rw [e] at h
    exact h
theorem ds_for (hp : PassesOwn (model X.prog X.w) X.A X.env X.xe) (hc : X.calm = true) (hi : PI X tg iter (tDI g m W fi)) (hg : PG X tg (tDG g m fg)) (hb : PSs X body (tDS g m W fb)) (hs : ∀ x, foldedSetIterable iter X.env x = pure x := by intro _; rfl) :
    PS X (.For tg iter body [] pos) (tDS g m W (fFor fi fg fb)) :=
  PS.to (ps_for hp hc hi hg hb hs) fun Dn σ H ⟨ρ, st, hE, hP, h⟩ => seqIS hE hP h fun ds st1 J H1 g1 p1 wk e1 h1 => by
    have wk1 := wk m (View.refl m H1)
    refine ⟨fun i n σ H' => n = ds.length - i ∧ i ≤ ds.length ∧ Go m H1 H' ∧ ∃ ρ st, EnvR g m H' σ ρ ∧ PenAt g m H' st ∧ AfterS g m W H' Dn (loopS fg fb (ds.drop i) ρ st), ⟨_, rfl, Nat.zero_le _, Go.refl m H1, ρ, st1, e1, p1, h1⟩, ?_⟩
    rintro i n σ' H' ⟨rfl, hi, g2, ρ2, st2, e2, p2, h2⟩
    obtain ⟨wi, ws⟩ := wk1 i H' g2
    by_cases hlt : i < ds.length
    · have hd : ds[i]? = some ds[i] := by simp [hlt]
      obtain ⟨wg, wy⟩ := wi _ hd
      refine .inr ⟨wg, fun σ3 H3 => Go m H1 H3 ∧ ∃ ρ st, EnvR g m H3 σ3 ρ ∧ PenAt g m H3 st ∧ AfterS g m W H3 Dn (loopS fg fb (ds.drop (i + 1)) ρ st), fun σ3 H3 ⟨q1, q2⟩ => ⟨ds.length - (i + 1), by omega, rfl, hlt, q1, q2⟩, fun x H3 y => ?_⟩
      obtain ⟨sm, rp⟩ := wy x H3 y
      have rp := rp p2.1
      rw [List.drop_eq_getElem_cons hlt] at h2
      unfold loopS at h2
      have g3 : Go m H1 H3 := g2.trans (Same.go sm)
      have p3 := p2.same sm
      have e3 := e2.go (Same.go sm)
      cases ef : fg ds[i] ρ2 with
      | none =>
        rw [ef] at h2
        exact h2.elim
      | some ρ3 =>
        rw [ef] at h2
        refine ⟨ds[i], ρ2, ρ3, rp, e3, ef, fun σ4 e4 => ⟨ρ3, st2, e4, p3, ?_⟩⟩
        have h3 := AfterS.go h2 (Same.go sm)
        dsimp only at h3
        cases eb : fb ρ3 st2 with
        | nx ρ5 st5 =>
          rw [eb] at h3
          exact fun σ5 H5 g5 p5 e5 => ⟨g3.trans g5, ρ5, st5, e5, p5, AfterS.go h3 g5⟩
        | ct ρ5 st5 =>
          rw [eb] at h3
          exact fun σ5 H5 g5 p5 e5 => ⟨g3.trans g5, ρ5, st5, e5, p5, AfterS.go h3 g5⟩
        | bk => rw [eb] at h3; exact h3
        | rt => rw [eb] at h3; exact h3
        | err => rw [eb] at h3; exact h3
        | bad => rw [eb] at h3; exact h3
    · have ei : i = ds.length := by omega
      subst ei
      rw [List.drop_length] at h2
      exact .inl ⟨ws (Nat.le_refl _), h2 σ' H' (Go.refl m H') p2 e2⟩
end

/-! ### while, at most so many turns -/
def loopW (t : FT) (fb : FS) : Nat → FS
  | 0, _, _ => .bad
  | n + 1, ρ, st => (t ρ st).to ρ fun b st1 => if b then (match fb ρ st1 with
      | .nx ρ' st' => loopW t fb n ρ' st'
      | .ct ρ' st' => loopW t fb n ρ' st'
      | .bk ρ' st' => .nx ρ' st'
      | .rt d st' => .rt d st'
      | .err c l ρ' st' => .err c l ρ' st'
      | .bad => .bad) else .nx ρ st1
def fWhile (n : Ev → Nat) (t : FT) (fb : FS) : FS := fun ρ st => loopW t fb (n ρ) ρ st
section
variable {X : Cx} {g : G} {m : Mw} {W : WX} {pos : Pos} {c : Expr} {body : List Stmt} {t : FT} {fb : FS}
theorem ds_while (n : Ev → Nat) (hp : PassesOwn (model X.prog X.w) X.A X.env X.xe) (hc : PT X c (tDT g m W t)) (hb : PSs X body (tDS g m W fb)) : PS X (.While c body [] pos) (tDS g m W (fWhile n t fb)) :=
  PS.to (ps_while hp hc hb) fun Dn σ H ⟨ρ, st, hE, hP, h⟩ => by
    refine ⟨fun k σ H' => Go m H H' ∧ ∃ ρ st, EnvR g m H' σ ρ ∧ PenAt g m H' st ∧ AfterS g m W H' Dn (loopW t fb k ρ st), ⟨n ρ, Go.refl m H, ρ, st, hE, hP, h⟩, ?_⟩
    rintro k σ' H' ⟨g2, ρ2, st2, e2, p2, h2⟩
    cases k with
    | zero => exact h2.elim
    | succ k =>
      refine seqTS e2 p2 h2 fun b st3 H3 g3 p3 e3 h3 => ?_
      cases b with
      | false => exact h3 σ' H3 (Go.refl m H3) p3 e3
      | true =>
        refine ⟨fun σ4 H4 => Go m H H4 ∧ ∃ ρ st, EnvR g m H4 σ4 ρ ∧ PenAt g m H4 st ∧ AfterS g m W H4 Dn (loopW t fb k ρ st), fun σ4 H4 q => ⟨k, Nat.lt_succ_self k, q⟩, ρ2, st3, e3, p3, ?_⟩
        rw [if_pos rfl] at h3
        cases eb : fb ρ2 st3 with
        | nx ρ5 st5 =>
          rw [eb] at h3
          exact fun σ5 H5 g5 p5 e5 => ⟨(g2.trans g3).trans g5, ρ5, st5, e5, p5, AfterS.go h3 g5⟩
        | ct ρ5 st5 =>
          rw [eb] at h3
          exact fun σ5 H5 g5 p5 e5 => ⟨(g2.trans g3).trans g5, ρ5, st5, e5, p5, AfterS.go h3 g5⟩
        | bk => rw [eb] at h3; exact h3
        | rt => rw [eb] at h3; exact h3
        | err => rw [eb] at h3; exact h3
        | bad => rw [eb] at h3; exact h3
end
end DL

set_option Elab.async false
set_option linter.all false
set_option maxRecDepth 100000
set_option maxHeartbeats 4000000
namespace DL
open PySem L2

/-! ### comprehensions: targets that keep the other slots -/
def tDC (g : G) (m : Mw) (vs : List Nat) (f : FG) : TG := fun v σ H Q => ∃ d ρ ρ', Rep g m H d v ∧ EnvR g m H σ ρ ∧ f d ρ = some ρ' ∧ ∀ σ', EnvR g m H σ' ρ' → wipe σ' vs = wipe σ vs → Q σ' H
def tDCs (g : G) (m : Mw) (vs : List Nat) (f : FGs) : TGs := fun xs σ H Q => ∃ ds ρ ρ', RepL g m H ds xs ∧ EnvR g m H σ ρ ∧ f ds ρ = some ρ' ∧ ∀ σ', EnvR g m H σ' ρ' → wipe σ' vs = wipe σ vs → Q σ' H
theorem wipe_set {σ : St} {i : Nat} {o : Option V} : ∀ {vs : List Nat}, i ∈ vs → wipe (σ.set i o) vs = wipe σ vs
  | [], h => nomatch h
  | v :: vs, h => by
    unfold wipe
    by_cases hv : i ∈ vs
    · rw [wipe_set hv]
    · have e : i = v := by
        rcases List.mem_cons.mp h with e | e
        · exact e
        · exact absurd e hv
      subst e
      have key : ∀ (l : List Nat) (τ : St), i ∉ l → wipe (τ.set i o) l = (wipe τ l).set i o := by
        intro l
        induction l with
        | nil => intro τ _; rfl
        | cons w ws ih =>
          intro τ hn
          have hn' : i ∉ ws := fun z => hn (List.mem_cons_of_mem _ z)
          have hw : i ≠ w := fun z => hn (by rw [z]; exact List.mem_cons_self)
          unfold wipe
          rw [ih τ hn', List.set_comm _ _ hw]
      rw [key vs σ hv, List.set_set]
def wipeE (ρ : Ev) : List Nat → Ev
  | [] => ρ
  | v :: vs => (wipeE ρ vs).set v none
theorem EnvR.wipe {g : G} {m : Mw} {H : Hp} {σ : St} {ρ : Ev} (h : EnvR g m H σ ρ) : ∀ vs, EnvR g m H (wipe σ vs) (wipeE ρ vs)
  | [] => h
  | v :: vs => EnvR.unset none (EnvR.wipe h vs)
section
variable {X : Cx} {g : G} {m : Mw} {W : WX} {pos : Pos} {vs : List Nat}
theorem dc_name (i : Nat) {x : Str} (hv : i ∈ vs) (hN : X.N.Nodup) (hi : X.N[i]? = some x := by rfl) (hx : Loc X.env.scope x := by first | exact Or.inl rfl | exact Or.inr rfl) (hf : X.fn x = true ∨ X.env.scope.names.lookup x = some .local := by first | exact .inl rfl | exact .inr rfl | assumption) : PG X (.Name x pos) (tDC g m vs (gN i)) :=
  PG.to (pg_name hN hi hx hf) fun v σ H Q ⟨d, ρ, ρ', r, hE, e, q⟩ => q _ (by cases e; exact hE.set r) (wipe_set hv)
theorem dcs_nil : PGs X [] (tDCs g m vs gs0) := PGs.to pgs_nil fun xs σ H Q ⟨ds, ρ, ρ', r, hE, e, q⟩ => by
  cases ds with
  | nil => cases r; cases e; exact ⟨rfl, q _ hE rfl⟩
  | cons => cases e
theorem dcs_cons {e : Expr} {es : List Expr} {f : FG} {r : FGs} (h1 : PG X e (tDC g m vs f)) (h2 : PGs X es (tDCs g m vs r))
    (hs : (assignEach (e :: es) X.env).map (·.2) = assign e X.env :: (assignEach es X.env).map (·.2) := by rfl) : PGs X (e :: es) (tDCs g m vs (gsC f r)) :=
  PGs.to (pgs_cons h1 h2 hs) fun xs σ H Q ⟨ds, ρ, ρ', rr, hE, e, q⟩ => by
    cases ds with
    | nil => cases e
    | cons d ds =>
      obtain ⟨x, xs, ev, h1, h2⟩ := rr
      obtain ⟨ρ1, e1, e2⟩ := Option.bind_eq_some_iff.mp e
      exact ⟨x, xs, ev, d, ρ, ρ1, h1, hE, e1, fun σ' hE' w1 => ⟨ds, ρ1, ρ', h2, hE', e2, fun σ2 hE2 w2 => q σ2 hE2 (w2.trans w1)⟩⟩
theorem dc_tup {es : List Expr} {k : Nat} {r : FGs} {n : Nat} (hc : X.calm = true) (h : PGs X es (tDCs g m vs r)) (hn : (assignEach es X.env).length = n := by rfl) (hst : (assignEach es X.env).findIdx? (·.1) = none := by rfl) :
    PG X (.Tuple es k pos) (tDC g m vs (gTp n r)) :=
  PG.to (pg_tup hc h hn hst) fun v σ H Q ⟨d, ρ, ρ', rr, hE, e, q⟩ => by
    unfold gTp at e
    split at e
    · rename_i ds
      split at e
      · rename_i hl
        obtain ⟨a, ys, ev, _, hs, hr⟩ := rr
        exact ⟨a, ys, ev, SqT.of hs, by rw [← hr.length]; exact hl, ds, ρ, ρ', hr, hE, e, q⟩
      · cases e
    · cases e
end

/-! ### the comprehension itself -/
def compL (fg : FG) (tt : FT) (fe : F) : List D → Ev → Pn → R (List D)
  | [], _, st => .ok [] st
  | d :: ds, ρ, st => match fg d ρ with
    | none => .bad
    | some ρ1 => match tt ρ1 st with
      | .ok true st1 => (match fe ρ1 st1 with
        | .ok y st2 => (match compL fg tt fe ds ρ st2 with
          | .ok ys st3 => .ok (y :: ys) st3
          | _ => .bad)
        | _ => .bad)
      | .ok false st1 => compL fg tt fe ds ρ st1
      | _ => .bad
def fLc (fi : FA) (vs : List Nat) (fg : FG) (tt : FT) (fe : F) : F := fun ρ st => (fi ρ st).bind fun ds st1 => match compL fg tt fe ds (wipeE ρ vs) st1 with
  | .ok ys st2 => if ys.length ≤ 100000 then .ok (.lst ys) st2 else .bad
  | _ => .bad
/-- nothing is raised in a block -/
abbrev W0 : WX := fun _ _ _ _ => False
def fYes : FT := fun _ st => .ok true st
theorem PTs.to {X : Cx} {e : List Expr} {t t' : TT} (h : PTs X e t) (w : ∀ σ H Q, t' σ H Q → t σ H Q) : PTs X e t' := ⟨fun pins s σ H Q I q => h.run pins s σ H Q I (w σ H Q q)⟩
section
variable {X : Cx} {g : G} {m : Mw} {W : WX} {pos : Pos} {tg iter elt c : Expr} {ifs : List Expr} {fi : FA} {fg : FG} {tt : FT} {fe : F}
theorem dts_nil : PTs X [] (tDT g m W fYes) := PTs.to pts_nil fun σ H Q ⟨ρ, st, hE, hP, h⟩ => h H (Go.refl m H) hP
theorem dts_one (h : PT X c (tDT g m W tt)) : PTs X [c] (tDT g m W tt) := pts_one h
theorem seqI {σ : St} {H : Hp} {ρ : Ev} {st : Pn} {α : Type} {K : α → Pn → Prop} {k : List D → Pn → R α} {C : It → Hp → Prop} (hE : EnvR g m H σ ρ) (hP : PenAt g m H st) (h : After g m W σ H K ((fi ρ st).bind k))
    (hk : ∀ ds st1 J H1, Go m H H1 → PenAt g m H1 st1 → Walks g m J H1 ds → EnvR g m H1 σ ρ → After g m W σ H K (k ds st1) → C J H1) : tDI g m W fi σ H C := by
  refine ⟨ρ, st, hE, hP, ?_⟩
  cases e : fi ρ st with
  | ok d st1 =>
    rw [e] at h
    exact fun J H1 e1 p1 r1 => hk d st1 J H1 e1 p1 r1 (hE.go e1) h
  | err c l st1 =>
    rw [e] at h
    exact h
  | bad =>
    rw [e] at h
    exact h
theorem EnvR.view {m m' : Mw} {H : Hp} {σ : St} {ρ : Ev} (h : EnvR g m H σ ρ) (v : View m m' H) : EnvR g m' H σ ρ := ⟨h.1, fun i d q => let ⟨x, h1, h2⟩ := h.2 i d q; ⟨x, h1, Rep.view v.pen v.ex d x h2⟩⟩
theorem PenAt.hide {H : Hp} {st : Pn} {p : Addr} {o : HO} (h : PenAt g m H st) (hp : H p = none) : PenAt g (m.hide p) (upd H p o) st := by
  refine ⟨fun a ha => ?_, fun q hq => ?_⟩
  · by_cases e : a = p
    · subst e
      rw [upd_same]
      exact fun z => nomatch z
    · rw [upd_ne e]
      rcases ha with ha | ha
      · exact h.1 a (.inl ha)
      · exact ha.elim (fun ha => h.1 a (.inr ha)) fun z => absurd z e
  · obtain ⟨a, b, l, n, h1, h2⟩ := h.2 q hq
    refine ⟨a, b, l, fun z => ?_, by rw [upd_ne (ne_of_none h1 hp)]; exact h1, (same_new hp) _ _ h2⟩
    rcases z with z | z
    · exact n (.inl z)
    · exact z.elim (fun z => n (.inr z)) fun z => by rw [z, hp] at h2; cases h2
theorem PenAt.unhide {H : Hp} {st : Pn} {p : Addr} (h : PenAt g (m.hide p) H st) : PenAt g m H st := by
  refine ⟨fun a ha => h.1 a (ha.elim .inl fun z => .inr (.inl z)), fun q hq => ?_⟩
  obtain ⟨a, b, l, n, h1, h2⟩ := h.2 q hq
  exact ⟨a, b, l, fun z => n (z.elim .inl fun z => .inr (.inl z)), h1, h2⟩
/-- what stands apart is written: the other things stay -/
theorem go_upd_hd {H H' : Hp} {p : Addr} {o : HO} (e : Go m H H') (hp : H p = none) : Go m H (upd H' p o) := fun a u h n => by
  rw [upd_ne (ne_of_none h hp)]
  exact e a u h n
theorem rd_upd {H : Hp} {a p : Addr} {o u : HO} (h : a ≠ p) (r : Rd H a u) : Rd (upd H p o) a u := by
  rcases r with r | ⟨ob, r⟩
  · exact .inl ((upd_ne h).trans r)
  · exact .inr ⟨ob, (upd_ne h).trans r⟩
theorem XdAt.upd {H : Hp} {p : Addr} {o : HO} {fn : List Str} {l : List D} {od : Option Addr} {vs : List V} (hp : m.ex p) (h : XdAt m H fn l od vs) : XdAt m (upd H p o) fn l od vs := by
  cases od with
  | some dx => exact ⟨h.1, (upd_ne (fun z => h.1 (by rw [z]; exact hp))).trans h.2⟩
  | none => exact h
mutual
/-- writing at what is hidden changes no data -/
theorem Rep.upd {H : Hp} {p : Addr} {o : HO} (hp : m.ex p) : ∀ (d : D) (v : V), Rep g m H d v → Rep g m (upd H p o) d v
  | .non, _, h => h
  | .bl _, _, h => h
  | .int _, _, h => h
  | .str _, _, h => h
  | .lst l, _, ⟨a, vs, hv, n, hs, hl⟩ => ⟨a, vs, hv, n, (upd_ne (fun z => n (by rw [z]; exact hp))).trans hs, RepL.upd hp l vs hl⟩
  | .tup l, _, ⟨a, vs, hv, n, hs, hl⟩ => ⟨a, vs, hv, n, (upd_ne (fun z => n (by rw [z]; exact hp))).trans hs, RepL.upd hp l vs hl⟩
  | .dct _ l, _, ⟨a, vs, hv, n, hk, hs, hl⟩ => ⟨a, vs, hv, n, hk, (upd_ne (fun z => n (by rw [z]; exact hp))).trans hs, RepL.upd hp l vs hl⟩
  | .obj _ l, _, ⟨a, dx, vs, hv, n, hk, hs, hl⟩ => ⟨a, dx, vs, hv, n, hk, (upd_ne (fun z => n (by rw [z]; exact hp))).trans hs, RepL.upd hp l vs hl⟩
  | .exc _ l, _, ⟨a, od, vs, hv, n, hk, hs, hx, hl⟩ => ⟨a, od, vs, hv, n, hk, (upd_ne (fun z => n (by rw [z]; exact hp))).trans hs, XdAt.upd hp hx, RepL.upd hp l vs hl⟩
  | .cls _, _, h => h
  | .ty _, _, h => h
  | .pen, _, h => h
theorem RepL.upd {H : Hp} {p : Addr} {o : HO} (hp : m.ex p) : ∀ (ds : List D) (vs : List V), RepL g m H ds vs → RepL g m (upd H p o) ds vs
  | [], _, h => h
  | d :: ds, _, ⟨x, xs, hv, h1, h2⟩ => ⟨x, xs, hv, Rep.upd hp d x h1, RepL.upd hp ds xs h2⟩
end
theorem EnvR.upd {H : Hp} {σ : St} {ρ : Ev} {p : Addr} {o : HO} (hp : m.ex p) (h : EnvR g m H σ ρ) : EnvR g m (upd H p o) σ ρ := ⟨h.1, fun i d q => let ⟨x, h1, h2⟩ := h.2 i d q; ⟨x, h1, Rep.upd hp d x h2⟩⟩
theorem PenAt.upd {H : Hp} {st : Pn} {p : Addr} {o : HO} (h : PenAt g m H st) (hp : m.ex p) (hn : m.pen ≠ some p) : PenAt g m (upd H p o) st := by
  refine ⟨fun a ha => ?_, fun q hq => ?_⟩
  · by_cases e : a = p
    · subst e
      rw [upd_same]
      exact fun z => nomatch z
    · rw [upd_ne e]
      exact h.1 a ha
  · obtain ⟨a, b, l, n, h1, h2⟩ := h.2 q hq
    exact ⟨a, b, l, n, (upd_ne (fun z => hn (by rw [← z]; exact hq))).trans h1, (upd_ne (fun z => n (by rw [z]; exact hp))).trans h2⟩
theorem wipe_sub {σ : St} {vs : List Nat} : ∀ {ws : List Nat}, (∀ i ∈ ws, i ∈ vs) → wipe (wipe σ ws) vs = wipe σ vs
  | [], _ => rfl
  | w :: ws, h => by
    show wipe ((wipe σ ws).set w none) vs = wipe σ vs
    rw [wipe_set (h w List.mem_cons_self), wipe_sub fun i hi => h i (List.mem_cons_of_mem _ hi)]
theorem PE.ex {X : Cx} {e : Expr} {ι : Type} {t : ι → TE} (h : ∀ i, PE X e (t i)) : PE X e (fun σ H Q => ∃ i, t i σ H Q) := ⟨fun pins s σ H Q I ⟨i, q⟩ => (h i).run pins s σ H Q I q⟩
theorem PTs.ex {X : Cx} {e : List Expr} {ι : Type} {t : ι → TT} (h : ∀ i, PTs X e (t i)) : PTs X e (fun σ H Q => ∃ i, t i σ H Q) := ⟨fun pins s σ H Q I ⟨i, q⟩ => (h i).run pins s σ H Q I q⟩
theorem PG.ex {X : Cx} {e : Expr} {ι : Type} {t : ι → TG} (h : ∀ i, PG X e (t i)) : PG X e (fun v σ H Q => ∃ i, t i v σ H Q) := ⟨fun pins s σ H v u Q I r ⟨i, q⟩ => (h i).run pins s σ H v u Q I r q⟩

theorem lc_to {vs : List Nat} : ∀ σ H Q, tD g m W (fLc fi vs fg tt fe) σ H Q →
    tLc (tDI g m W fi) (fun v σ H Q => ∃ m' : Mw, tDC g m' vs fg v σ H Q) (fun σ H Q => ∃ m' : Mw, tDT g m' W0 tt σ H Q) (fun σ H Q => ∃ m' : Mw, tD g m' W0 fe σ H Q) vs σ H Q := fun σ H Q ⟨ρ, st, hE, hP, h⟩ =>
  seqI hE hP h fun ds st1 J H1 g1 p1 wk e1 h1 Da hD => by
    cases hcomp : compL fg tt fe ds (wipeE ρ vs) st1 with
    | err c l st' =>
      rw [hcomp] at h1
      exact h1.elim
    | bad =>
      rw [hcomp] at h1
      exact h1.elim
    | ok total stF =>
      rw [hcomp] at h1
      dsimp only at h1
      by_cases hz : total.length ≤ 100000
      case neg =>
        rw [if_neg hz] at h1
        exact h1.elim
      rw [if_pos hz] at h1
      have wk1 := wk (m.hide Da) (View.hide hD)
      have hx : (m.hide Da).ex Da := .inr (.inr rfl)
      have hpen : (m.hide Da).pen ≠ some Da := fun z => by
        obtain ⟨_, _, _, _, hh, _⟩ := p1.2 Da z
        rw [hD] at hh
        cases hh
      have hmt : ¬ m.mt Da := fun z => p1.1 Da (.inl z) hD
      refine ⟨fun i n H' => n = ds.length - i ∧ i ≤ ds.length ∧ Go m H1 H' ∧ ∃ st acc accD rest, H' Da = some (.lst acc) ∧ RepL g (m.hide Da) H' accD acc ∧ PenAt g (m.hide Da) H' st ∧ EnvR g (m.hide Da) H' (wipe σ vs) (wipeE ρ vs) ∧
        compL fg tt fe (ds.drop i) (wipeE ρ vs) st = .ok rest stF ∧ accD ++ rest = total, ⟨_, rfl, Nat.zero_le _, Go.new (Go.refl m H1) hD, st1, [], [], total, upd_same, rfl, p1.hide hD, ?_, hcomp, rfl⟩, ?_⟩
      · exact EnvR.upd hx ((e1.wipe vs).view (View.hide hD))
      rintro i n H' ⟨rfl, hi, g2, st2, acc, accD, rest, hacc, racc, p2, e2, hc2, etot⟩
      obtain ⟨wi, ws⟩ := wk1 i H' g2
      by_cases hlt : i < ds.length
      · have hd : ds[i]? = some ds[i] := by simp [hlt]
        obtain ⟨wg, wy⟩ := wi _ hd
        refine .inr ⟨wg, fun H3 => Go m H1 H3 ∧ ∃ st acc accD rest, H3 Da = some (.lst acc) ∧ RepL g (m.hide Da) H3 accD acc ∧ PenAt g (m.hide Da) H3 st ∧ EnvR g (m.hide Da) H3 (wipe σ vs) (wipeE ρ vs) ∧
          compL fg tt fe (ds.drop (i + 1)) (wipeE ρ vs) st = .ok rest stF ∧ accD ++ rest = total, fun H3 ⟨q1, q2⟩ => ⟨ds.length - (i + 1), by omega, rfl, hlt, q1, q2⟩, fun x H3 y => ?_⟩
        obtain ⟨sm, rp⟩ := wy x H3 y
        have rp := rp p2.1
        rw [List.drop_eq_getElem_cons hlt] at hc2
        unfold compL at hc2
        have g3 : Go m H1 H3 := g2.trans (Same.go sm)
        have p3 := p2.same sm
        have e3 : EnvR g (m.hide Da) H3 (wipe σ vs) (wipeE ρ vs) := e2.go (Same.go sm)
        have a3 : H3 Da = some (.lst acc) := sm _ _ hacc
        have r3 : RepL g (m.hide Da) H3 accD acc := RepL.go (Same.go sm) _ _ racc
        cases ef : fg ds[i] (wipeE ρ vs) with
        | none =>
          rw [ef] at hc2
          cases hc2
        | some ρ3 =>
          rw [ef] at hc2
          dsimp only at hc2
          refine ⟨m.hide Da, ds[i], wipeE ρ vs, ρ3, rp, e3, ef, fun σ4 e4 w4 => ⟨w4.trans (wipe_sub fun _ z => z), m.hide Da, ρ3, st2, e4, p3, ?_⟩⟩
          cases et : tt ρ3 st2 with
          | err =>
            rw [et] at hc2
            cases hc2
          | bad =>
            rw [et] at hc2
            cases hc2
          | ok b st4 =>
            rw [et] at hc2
            intro H4 g4 p4
            have a4 : H4 Da = some (.lst acc) := g4 _ _ a3 hmt
            have r4 : RepL g (m.hide Da) H4 accD acc := RepL.go g4 _ _ r3
            cases b with
            | false => exact ⟨g3.trans g4, st4, acc, accD, rest, a4, r4, p4, e3.go g4, hc2, etot⟩
            | true =>
              dsimp only at hc2
              refine ⟨m.hide Da, ρ3, st4, e4.go g4, p4, ?_⟩
              cases ee : fe ρ3 st4 with
              | err =>
                rw [ee] at hc2
                cases hc2
              | bad =>
                rw [ee] at hc2
                cases hc2
              | ok z st5 =>
                rw [ee] at hc2
                dsimp only at hc2
                intro v H5 g5 p5 r5
                cases er : compL fg tt fe (ds.drop (i + 1)) (wipeE ρ vs) st5 with
                | err =>
                  rw [er] at hc2
                  cases hc2
                | bad =>
                  rw [er] at hc2
                  cases hc2
                | ok zs st6 =>
                  rw [er] at hc2
                  cases hc2
                  have hlen : accD.length < total.length := by
                    rw [← etot, List.length_append, List.length_cons]
                    omega
                  refine ⟨acc, g5 _ _ a4 hmt, line_lt (by rw [← r4.length]; omega), go_upd_hd ((g3.trans g4).trans g5) hD, st5, acc ++ [v], accD ++ [z], zs, upd_same, ?_, PenAt.upd p5 hx hpen, EnvR.upd hx ((e3.go g4).go g5), er, ?_⟩
                  · exact RepL.upd hx _ _ (RepL.append (RepL.go g5 _ _ r4) (RepL.one r5))
                  · rw [← etot, List.append_assoc]
                    rfl
      · have ei : i = ds.length := by omega
        subst ei
        rw [List.drop_length] at hc2
        unfold compL at hc2
        cases hc2
        rw [List.append_nil] at etot
        subst etot
        refine .inl ⟨ws (Nat.le_refl _), h1 _ H' (g1.trans g2) p2.unhide ⟨Da, acc, rfl, p1.fresh hD, hacc, ?_⟩⟩
        exact RepL.view (m := m.hide Da) (m' := m) rfl (fun a ha => Or.inl (Or.elim ha Or.inl fun z => Or.inr (Or.inl z))) _ _ racc
variable {scope : Scope} {own : List (Str × Nat)}
theorem d_lc (hc : X.calm = true) (hN : X.N.Nodup) (hi : PI X tg iter (tDI g m W fi)) (ok : BlkOk X.N X.env.scope scope own)
    (hg : ∀ (m' : Mw) (s : Shared) (H : Hp) (C : Addr) (cl : List (Str × Addr)) (fp : List Addr), PG (X.blk s H scope (compEnvC scope cl C X.env) fp) tg (tDC g m' (own.map (·.2)) fg))
    (ht : ∀ (m' : Mw) (s : Shared) (H : Hp) (C : Addr) (cl : List (Str × Addr)) (fp : List Addr), PTs (X.blk s H scope (compEnvC scope cl C X.env) fp) ifs (tDT g m' W0 tt))
    (he : ∀ (m' : Mw) (s : Shared) (H : Hp) (C : Addr) (cl : List (Str × Addr)) (fp : List Addr), PE (X.blk s H scope (compEnvC scope cl C X.env) fp) elt (tD g m' W0 fe)) (hs : ∀ x, foldedSetIterable iter X.env x = pure x := by intro _; rfl) :
    PE X (.ListComp elt [⟨tg, iter, ifs, 0⟩] scope pos) (tD g m W (fLc fi (own.map (·.2)) fg tt fe)) :=
  PE.to (pe_lc hc hN hi ok (fun s H C cl fp => PG.ex fun m' => hg m' s H C cl fp) (fun s H C cl fp => PTs.ex fun m' => ht m' s H C cl fp) (fun s H C cl fp => PE.ex fun m' => he m' s H C cl fp) hs) lc_to
/-- y = [..] -/
theorem ds_setLc (i : Nat) {y : Str} {py spos : Pos} (hc : X.calm = true) (hN : X.N.Nodup) (hi : PI X tg iter (tDI g m W fi)) (ok : BlkOk X.N X.env.scope scope own)
    (hg : ∀ (m' : Mw) (s : Shared) (H : Hp) (C : Addr) (cl : List (Str × Addr)) (fp : List Addr), PG (X.blk s H scope (compEnvC scope cl C X.env) fp) tg (tDC g m' (own.map (·.2)) fg))
    (ht : ∀ (m' : Mw) (s : Shared) (H : Hp) (C : Addr) (cl : List (Str × Addr)) (fp : List Addr), PTs (X.blk s H scope (compEnvC scope cl C X.env) fp) ifs (tDT g m' W0 tt))
    (he : ∀ (m' : Mw) (s : Shared) (H : Hp) (C : Addr) (cl : List (Str × Addr)) (fp : List Addr), PE (X.blk s H scope (compEnvC scope cl C X.env) fp) elt (tD g m' W0 fe))
    (hy : X.N[i]? = some y := by rfl) (hyl : X.env.scope.names.lookup y = some .local := by rfl)
    (hsw : swapsWith (.ListComp elt [⟨tg, iter, ifs, 0⟩] scope pos) (some (.Name y py)) spos.line X.env = pure true := by exact sw_true rfl rfl rfl (by decide +kernel)) (hs : ∀ x, foldedSetIterable iter X.env x = pure x := by intro _; rfl) :
    PS X (.Assign [.Name y py] (.ListComp elt [⟨tg, iter, ifs, 0⟩] scope pos) spos) (tDS g m W (fSet (gN i) (fLc fi (own.map (·.2)) fg tt fe))) :=
  PS.to (ps_setLc hc hN hy hyl hsw hi ok (fun s H C cl fp => PG.ex fun m' => hg m' s H C cl fp) (fun s H C cl fp => PTs.ex fun m' => ht m' s H C cl fp) (fun s H C cl fp => PE.ex fun m' => he m' s H C cl fp) hs) fun Dn σ H ⟨ρ, st, hE, hP, h⟩ =>
    lc_to σ H _ (seqDS hE hP h fun d st1 v H1 g1 p1 r1 e1 h1 => h1 _ H1 (Go.refl m H1) p1 (e1.set r1))
end
end DL

set_option Elab.async false
set_option linter.all false
set_option maxRecDepth 100000
set_option maxHeartbeats 4000000
namespace DL
open PySem L2

/-! ### room, with no text being shown -/
structure RoomG (k : Nat) (A : Around) : Prop where
  r : Room k A
  gd : A.guards = some []
theorem RoomG.mono {j k : Nat} {A : Around} (h : RoomG k A) (l : j ≤ k) : RoomG j A := ⟨h.r.mono l, h.gd⟩
theorem RoomG.deeper {k : Nat} {A : Around} (h : RoomG (k + 1) A) (env : Env) : RoomG k (A.deeper env) := ⟨h.r.deeper env, h.gd⟩
theorem RoomG.in1 {k : Nat} {A : Around} (h : RoomG (k + 1) A) : RoomG k A.in1 := ⟨h.r.in1, h.gd⟩
/-- a def keeps a promise; exceptions may leave it -/
structure FnG (P : Program) (w : World) (K : PySem.W.Frag) (mg : Str → Option Value) (base : Heap) (k : Nat) (f : Addr) (fd : FuncData) (ps : List Str) (sp : Sp) : Prop where
  len : ∀ vs H Q E, sp vs H Q E → vs.length = ps.length
  run : ∀ (A : Around) (fs : List Env) (s : Shared) (H : Hp) (args : Args) (us : List Value) (vs : List V) (Q : VK) (E : XK), RoomG k A → Env0 P w K mg base A fs s H →
    BindsTo s fd args (ps.zip us) → Vals vs us → sp vs H Q E → codeAny (model P w) A (.call (.ref f) args) (CR (CX P w) fs P w H s Q E) s
section
variable {P : Program} {w : World} {K : PySem.W.Frag} {mg : Str → Option Value} {base : Heap}
theorem FnG.mono {j k : Nat} {f : Addr} {fd : FuncData} {ps : List Str} {sp : Sp} (F : FnG P w K mg base j f fd ps sp) (h : j ≤ k) : FnG P w K mg base k f fd ps sp :=
  ⟨F.len, fun A fs s H args us vs Q E hr => F.run A fs s H args us vs Q E (hr.mono h)⟩
theorem FnG.imp {k : Nat} {f : Addr} {fd : FuncData} {ps : List Str} {sp sp' : Sp} (F : FnG P w K mg base k f fd ps sp) (h : ∀ vs H Q E, sp' vs H Q E → sp vs H Q E) : FnG P w K mg base k f fd ps sp' :=
  ⟨fun vs H Q E q => F.len vs H Q E (h _ _ _ _ q), fun A fs s H args us vs Q E hr e0 hb r q => F.run A fs s H args us vs Q E hr e0 hb r (h _ _ _ _ q)⟩
theorem fnG {x qual : Str} {st : Stmt} {f : Addr} {fd : FuncData} {N ps : List Str} {k : Nat} {sp : Sp} (F : Fun K x qual st f fd) (S : FnScope N ps (defScope st)) (len : ∀ vs H Q E, sp vs H Q E → vs.length = ps.length)
    (hb : ∀ (cdv : Value) (A : Around) (fs : List Env) (s : Shared) (H : Hp) (vs : List V) (Q : VK) (E : XK), RoomG k (A.deeper (PyProof.Rows.envOfC qual (defScope st) s.heap.objs.size f cdv)) → sp vs H Q E →
      ∃ t, PSs (cxOf (CX P w) P w K mg base N qual (defScope st) f cdv A fs s H E) (defBody st) t ∧ t { nx := fun _ H' => Q .non H', rt := Q } (start N vs) H) : FnG P w K mg base (k + 1) f fd ps sp := by
  obtain ⟨oc, od, kV, doc, pm, an, cdv, ct, osl, rfl, lk, hcd⟩ := F.ex
  refine ⟨len, fun A fs s H args us vs Q E hr e0 bind r hsp => ?_⟩
  have KX : K.In s.heap := e0.mod.kin.keeps fun b o e => (e0.bs b o e).1
  have nl : s.heap.NoLimit := e0.mod.nolimit.keeps fun b o e => (e0.bs b o e).1
  refine codeAny_call_function hr.r.depth (KX _ _ lk) rfl S.co S.gen rfl (PySem.W.codeRec_of KX hcd) (bind _ _ _ _ (wpAny_newFunctionEnv_cells S.kind (fun y hy => ?_) fun env he s1 x => ?_))
  · rcases S.par y.1 (List.of_mem_zip (show (y.1, y.2) ∈ ps.zip us from hy)).1 with q | q
    · exact .inl q
    · exact .inr ⟨q, PySem.W.cellsFrom_some _ _ _ (.inl q)⟩
  · subst he
    obtain ⟨t, ht, hq⟩ := hb cdv A fs s H vs Q E (hr.deeper _) hsp
    refine ⟨nl.keeps x.toInCall.keep, codeAny_func (wpAny_mono (ht.run [] s1 (start N vs) H _ (inv_start S hr.r.hd e0 (len _ _ _ _ hsp) r x) hq) (fun fl s' hs => ?_) fun _ _ z => z)⟩
    cases fl with
    | next =>
      obtain ⟨σ', H', J, q⟩ := hs
      exact ⟨.non, H', J.os, J.bare, J.base, J.hok, rfl, q⟩
    | ret u =>
      obtain ⟨v, σ', H', J, rv, q⟩ := hs
      exact ⟨v, H', J.os, J.bare, J.base, J.hok, rv, q⟩
    | brk =>
      obtain ⟨_, _, _, q⟩ := hs
      exact q.elim
    | cont =>
      obtain ⟨_, _, _, q⟩ := hs
      exact q.elim
end

/-! ### a def by its mirror -/
def SpD (g : G) (n : Nat) (mf : List D → Pn → R D) : Sp := fun vs H Q E => ∃ m ds st, ds.length = n ∧ RepL g m H ds vs ∧ PenAt g m H st ∧ After g m (fun c d _ H' => E c d H') [] H (KO g m H Q) (mf ds st)
/-- a body's result as a def's -/
def RS.out : RS → R D
  | .rt d st => .ok d st
  | .nx _ st => .ok .non st
  | .err c l _ st => .err c l st
  | _ => .bad
def mir (n k : Nat) (f : FS) : List D → Pn → R D := fun ds st => (f (ds.map some ++ List.replicate (k - n) none) st).out
theorem envR_start {g : G} {m : Mw} {H : Hp} {ds : List D} {vs : List V} {N : List Str} (r : RepL g m H ds vs) : EnvR g m H (start N vs) (ds.map some ++ List.replicate (N.length - ds.length) none) := by
  have hl := r.length
  refine ⟨by simp [L2.start, hl], fun i d q => ?_⟩
  unfold L2.start
  by_cases hi : i < ds.length
  · rw [List.getElem?_append_left (by simpa using hi), List.getElem?_map] at q
    cases e : ds[i]? with
    | none => rw [e] at q; cases q
    | some d' =>
      rw [e] at q
      cases q
      obtain ⟨v, h1, h2⟩ := r.get e
      exact ⟨v, by rw [List.getElem?_append_left (by simpa [← hl] using hi), List.getElem?_map, h1]; rfl, h2⟩
  · rw [List.getElem?_append_right (by simpa using hi)] at q
    rw [List.getElem?_replicate] at q
    split at q <;> cases q
section
variable {P : Program} {w : World} {K : PySem.W.Frag} {mg : Str → Option Value} {base : Heap} {g : G}
/-- a def by its body's data reading -/
theorem fnD {x qual : Str} {st : Stmt} {f : Addr} {fd : FuncData} {N ps : List Str} {k : Nat} {fs : FS} (F : Fun K x qual st f fd) (S : FnScope N ps (defScope st))
    (hb : ∀ (m : Mw) (cdv : Value) (A : Around) (fr : List Env) (s : Shared) (H : Hp) (E : XK), RoomG k (A.deeper (PyProof.Rows.envOfC qual (defScope st) s.heap.objs.size f cdv)) →
      Takes (cxOf (CX P w) P w K mg base N qual (defScope st) f cdv A fr s H E) (fun c d _ H' => E c d H') →
      PassesOwn (model P w) (A.deeper (PyProof.Rows.envOfC qual (defScope st) s.heap.objs.size f cdv)) (PyProof.Rows.envOfC qual (defScope st) s.heap.objs.size f cdv) (cxOf (CX P w) P w K mg base N qual (defScope st) f cdv A fr s H E).xe →
      PSs (cxOf (CX P w) P w K mg base N qual (defScope st) f cdv A fr s H E) (defBody st) (tDS g m (fun c d _ H' => E c d H') fs)) :
    FnG P w K mg base (k + 1) f fd ps (SpD g ps.length (mir ps.length N.length fs)) := by
  refine fnG F S (fun vs H Q E ⟨m, ds, st, hl, r, _⟩ => by rw [← r.length]; exact hl) fun cdv A fr s H vs Q E hr ⟨m, ds, st, hl, r, hP, h⟩ => ⟨_, hb m cdv A fr s H E hr (takes_of rfl rfl rfl rfl) (passes_of rfl), ?_⟩
  refine ⟨ds.map some ++ List.replicate (N.length - ds.length) none, st, envR_start r, hP, ?_⟩
  unfold mir at h
  rw [← hl] at h
  generalize e : fs (ds.map some ++ List.replicate (N.length - ds.length) none) st = rr at h ⊢
  cases rr with
  | nx => exact fun σ' H' g1 p1 _ => h .non H' g1 p1 rfl
  | rt => exact h
  | err => exact fun σ' H' g1 _ => fun od vs H2 g2 p2 z hd rl => h od vs H2 (g1.trans g2) p2 z hd rl
  | bk => exact h.elim
  | ct => exact h.elim
  | bad => exact h.elim
end

/-! ### calls -/
def fCall (mf : List D → Pn → R D) (fa : FA) : F := fun ρ st => (fa ρ st).bind fun ds st1 => mf ds st1
section
variable {X : Cx} {g : G} {m : Mw} {W : WX} {pos p : Pos} {k n : Nat} {f : Addr} {fd : FuncData} {ps : List Str} {sp : Sp} {x : Str} {e : Expr} {es : List Expr} {fa : FA} {mf : List D → Pn → R D} {dvs : List V} {ds : List Value}
/-- the callee runs -/
theorem run_fnG {pins : List (Addr × Obj)} {σ : St} {H : Hp} {s : Shared} {Q : VK} {args : Args} {us : List Value} {vs : List V} {E : XK} (F : FnG X.prog X.w X.K X.mg X.base k f fd ps sp) (hr : RoomG k X.A) (tk : Takes X W) (hE : ∀ c d H', E c d H' → W c d σ H')
    (I : Inv X pins σ H s) (hb : BindsTo s fd args (ps.zip us)) (r : Vals vs us) (h : sp vs H Q E) : wpAny (model X.prog X.w) X.A (call (.ref f) args.pos args.kw) (EP X pins σ Q) X.xe s := by
  refine wpAny_call (codeAny_mono (F.run X.A X.stack s H args us vs Q E hr I.env0 hb r h) fun r s' hq => ?_)
  cases r with
  | error u => exact tk u s' (XE.of_call I hE hq)
  | ok fl =>
    cases fl with
    | ret u => exact I.after hq
    | next => exact hq.elim
    | brk => exact hq.elim
    | cont => exact hq.elim
theorem spD_of {σ : St} {H0 H : Hp} {Q : VK} {ds : List D} {st : Pn} {vs : List V} (h : After g m W σ H0 (KO g m H0 Q) (mf ds st)) (hn : ds.length = n) (g0 : Go m H0 H) (hP : PenAt g m H st) (r : RepL g m H ds vs) :
    SpD g n mf vs H Q (fun c d H' => W c d σ H') := by
  refine ⟨m, ds, st, hn, r, hP, ?_⟩
  generalize mf ds st = rr at h ⊢
  cases rr with
  | ok d st' => exact fun v H' g1 p1 r1 => h v H' (g0.trans g1) p1 r1
  | err c l st' => exact fun od vs H' g1 p1 z hd rl => h od vs H' (g0.trans g1) p1 z hd rl
  | bad => exact h
/-- how arguments come to the parameters: ds the defaults that fill up -/
theorem d_call (F : FnG X.prog X.w X.K X.mg X.base k f fd ps (SpD g n mf)) (hr : RoomG k X.A) (tk : Takes X W) (hm : X.mg x = some (.ref f)) (hk : PySem.W.keepIn X.K (.ref f) = true) (hb : Binds X.K fd ps []) (hl : es.length + 1 = n)
    (ha : PA X (e :: es) (tDA g m W fa)) (hlen : ∀ ρ st ds st', fa ρ st = .ok ds st' → ds.length = es.length + 1) (hg : Gl X x := by rfl) (hdb : (x == ("__debug__" : Str)) = false := by decide)
    (he : starEach (e :: es) X.env = (false, eval e X.env) :: starEach es X.env := by rfl) (hpl : (backTo pos (starEach es X.env)).any (·.1) = false := by rfl) : PE X (.Call (.Name x p) (e :: es) [] pos) (tD g m W (fCall mf fa)) := by
  refine ⟨fun pins s σ H Q I ⟨ρ, st, hE, hP, h⟩ => ?_⟩
  refine wpAny_Call_Name_kw (ld_glob I hg hm (PySem.W.callWith_K (h₀ := X.base) I.ok.mod.kin hk ?_ he hpl) hdb)
  have ht : tDA g m W fa σ H (fun vs H1 => SpD g n mf vs H1 Q (fun c d H' => W c d σ H')) := by
    refine ⟨ρ, st, hE, hP, ?_⟩
    unfold fCall at h
    cases ef : fa ρ st with
    | ok dsl st1 =>
      rw [ef] at h
      exact fun vs H1 g1 p1 r1 => spD_of h ((hlen _ _ _ _ ef).trans hl) g1 p1 r1
    | err c l st1 => rw [ef] at h; exact h
    | bad => rw [ef] at h; exact h
  refine thn (ha.run pos pins s σ H _ I ht) fun us s1 ⟨vs, H1, I1, r, q⟩ => ⟨I1.kIn, ?_⟩
  have hlv : (us ++ ([] : List Value)).length = ps.length := by rw [List.append_nil, ← r.length]; exact F.len _ _ _ _ q
  have hbb := hb s1 us I1.kIn hlv
  rw [List.append_nil] at hbb
  exact run_fnG (args := ⟨us, []⟩) F hr tk (fun _ _ _ z => z) I1 hbb r q
end
end DL

set_option Elab.async false
set_option linter.all false
set_option maxRecDepth 100000
set_option maxHeartbeats 4000000
namespace DL
open PySem L2 PySem.W

/-! ### super().__init__(..) on a new exception -/
abbrev mwV (e : Addr) : Obj := kxs_mw "ValueError.__init__" e
section
variable {prog : Program} {w : World} {M : Model} {A : Around} {E : Value → Shared → Prop} {h : Heap} {g : Array GenState} {d : Drawn} {t : Nat} {os : OsState}
variable {nm q : Str} {C N : Addr} {bs bm : List Value} {hdct : Bool} {sn : List Str} {sub : List Value} {ab : Bool} {col : Option Bool} {dd : Option Addr} {k0 k1 k2 k3 k5 : Option Value}
theorem call_mwV {u e t0 : Addr} {rest : List Value} {Q : Value → Shared → Prop}
    (hC : h.get? C = some (excClassObj nm q C N bs bm hdct sn sub ab col dd k0 k1 k2 k3 k5 "ValueError.__new__")) (he : h.get? e = some (HandSPX.excO C t0)) (hu : h.get? u = some (mwV e)) (hz : rest.length ≤ sizeLine)
    (hq : ∀ h' t1, (∀ b o, b ≠ e → h.get? b = some o → h'.get? b = some o) → h'.get? e = some (HandSPX.excO C t1) → Q .none ⟨h', g, d, t, os⟩) :
    wpAny (model prog w) A (call (.ref u) rest) Q E ⟨h, g, d, t, os⟩ := by
  refine wpAny_call (codeAny_of_tree ?_)
  show wpAny _ A.in1 (callAny (.ref u) ⟨rest, []⟩) _ _ _
  simp only [callAny]
  refine wpAny_bind (wpAny_load hu ?_)
  simp only [kxs_mw]
  refine KFB.if_so (by decide) ?_
  refine wpAny_bind (check_bound_init F.excBase_ValueError.toExcCallFacts hC he rfl ?_)
  refine wpAny_bind (wpAny_pure (wpAny_pure ?_))
  refine ⟨plainId_quiet F.excBase_ValueError.init.plain _, codeAny_builtin F.excBase_ValueError.initEntry ?_⟩
  exact exc_init_tree (cls := .ref C) (t0 := t0) (dv := none) (c2 := .none) (c3 := .none) (b4 := .bool false) he hz fun h' k e' _ => hq h' _ k e'
end

/-- what the written part tells of an exception class C whose __init__ is the def st: super().__init__(its parameters), then each is stored; ps: its parameters without self -/
structure XcK (P : Program) (K : Frag) (C f : Addr) (st : Stmt) (ps : List Str) : Prop where
  cls : OexC K C
  ini : findIn K (.ref C) "__init__" = some (some (.ref f))
  tyf : typeIn K (.ref f) = some (.type "function")
  fn : ∃ (oc : Value) (od : Option Addr) (qual : Str) (kV doc pm : Value) (an : Option Addr) (cda cc : Addr) (ct : Value) (osl : Array (Option Value)),
    K.lookup f = some ⟨oc, od, .func (ksFn "__init__" qual (defArgs st) (defBody st) (defScope st) .none kV doc pm an (.ref cda) ct cc), osl⟩ ∧ codeIn K (.ref cda) qual = true ∧
    (∃ (ccl : Value) (cdd : Option Addr) (vs : Array Value) (ccs : Array (Option Value)) (file : Str) (tf : Tok), K.lookup cda = some ⟨ccl, cdd, .fields vs, ccs⟩ ∧ vs[2]? = some (.str file tf) ∧ ((P.main.file : Str) == file) = true) ∧
    ∃ (cl : Value) (cld : Option Addr) (csl : Array (Option Value)), K.lookup cc = some ⟨cl, cld, .cell (some (.ref C)), csl⟩
  sup : ks_superIn K C C "__init__" = some (some (.builtin "ValueError.__init__"))
  opq : nsIn K cStatics "thirdparty.any" = some none
  isV : subIn K (.ref C) (.type "ValueError") = some true
  own : mroIn K C (.ref C) = some true
  no : ∀ x ∈ ps, findIn K (.ref C) x = some none
  top : (P.main.scope.names.lookup ("super" : Str)).isSome = false
  sc : (defScope st).kind = .function ∧ (defScope st).isCoroutine = false ∧ (defScope st).isGenerator = false ∧ (∀ x ∈ (defScope st).names, x.2 ≠ .cell) ∧ (defScope st).names.lookup ("super" : Str) = some .globalImplicit ∧
    (defScope st).names.lookup ("__class__" : Str) = some .free ∧ (defScope st).names.lookup ("self" : Str) = some .local ∧ ∀ x ∈ ps, (defScope st).names.lookup x = some .local
  hd : ∃ ar : Arg, ((defArgs st).posonlyargs ++ (defArgs st).args).head? = some ar ∧ ar.arg = ("self" : Str)

section
variable {P : Program} {w : World} {K : Frag} {A : Around} {C f : Addr} {st : Stmt} {ps : List Str} {mg mb m : Str → Option Value} {L e t0 : Addr} {E : Value → Shared → Prop} {h0 h : Heap} {g : Array GenState} {d : Drawn} {t : Nat} {os : OsState}
/-- what is known of the state within __init__: the heap ahead of it, the frame, the object -/
structure InX (h0 : Heap) (L e C : Addr) (m : Str → Option Value) (h : Heap) : Prop where
  k : ∀ b o, h0.get? b = some o → h.get? b = some o
  n : h.Ns L m
  o : ∃ t, h.get? e = some (HandSPX.excO C t)
theorem InX.kept {h' : Heap} (x : InX h0 L e C m h) (k : ∀ b o, h.get? b = some o → h'.get? b = some o) : InX h0 L e C m h' :=
  ⟨fun b o z => k _ _ (x.k b o z), x.n.keeps k, let ⟨t, z⟩ := x.o; ⟨t, k _ _ z⟩⟩
variable {qual : Str} {cda cc : Addr} {ccl cl : Value} {cdd cld od : Option Addr} {vs : Array Value} {ccs csl osl : Array (Option Value)} {file : Str} {tf : Tok} {kV doc pm ct oc : Value} {an : Option Addr} {body : List Stmt} {args : List Expr} {p0 p1 p2 p3 p4 : Pos} {ws : List Value}
theorem super_stmt (X : XcK P K C f st ps) (KX : K.In h0) (G : h0.Ns mainGlobals mg) (gs : mg "super" = none) (B : h0.Ns builtinsNs mb) (bb : ∀ x : Str, x ≠ "__name__" → mb x = bootBuiltins x)
    (lk : K.lookup f = some ⟨oc, od, .func (ksFn "__init__" qual (defArgs st) (defBody st) (defScope st) .none kV doc pm an (.ref cda) ct cc), osl⟩) (lc : K.lookup cda = some ⟨ccl, cdd, .fields vs, ccs⟩) (lv : vs[2]? = some (.str file tf)) (lf : ((P.main.file : Str) == file) = true)
    (ll : K.lookup cc = some ⟨cl, cld, .cell (some (.ref C)), csl⟩) (I : InX h0 L e C m h) (hm : m "self" = some (.ref e)) (hne : h0.get? e = none) (hLe : L ≠ e) (hz : ws.length ≤ sizeLine)
    (hargs : args = [] ∧ ws = [] ∨ ∃ a r, args = a :: r ∧ starEach (a :: r) (ksEnv qual (defScope st) L f (.ref cda) cc) = (false, eval a (ksEnv qual (defScope st) L f (.ref cda) cc)) :: starEach r (ksEnv qual (defScope st) L f (.ref cda) cc) ∧
      (backTo p3 (starEach r (ksEnv qual (defScope st) L f (.ref cda) cc))).any (·.1) = false ∧ ∀ (s1 : Shared) (Q1 : List Value → Shared → Prop), s1.heap.Ns L m → Q1 ws s1 → wpAny (model P w) A (spliced (backTo p3 (starEach (a :: r) (ksEnv qual (defScope st) L f (.ref cda) cc)))) Q1 E s1)
    {pl : Sem Bool} (hcall : eval (.Call (.Attribute (.Call (.Name "super" p0) [] [] p1) "__init__" p2) args [] p3) (ksEnv qual (defScope st) L f (.ref cda) cc) = (do
      let ov ← attributeBase (.Call (.Name "super" p0) [] [] p1) "__init__" (ksEnv qual (defScope st) L f (.ref cda) cc) (eval (.Call (.Name "super" p0) [] [] p1) (ksEnv qual (defScope st) L f (.ref cda) cc))
      standAt p2.atName
      let (fv, first) ← holding [ov] (getMethod ov "__init__" pl)
      callWith p3 fv first (backTo p3 (starEach args (ksEnv qual (defScope st) L f (.ref cda) cc))) []))
    (hsw : swapsWith (.Call (.Attribute (.Call (.Name "super" p0) [] [] p1) "__init__" p2) args [] p3) none p4.line (ksEnv qual (defScope st) L f (.ref cda) cc) = pure false)
    {Q : Flow → Shared → Prop} (hq : ∀ h' tk, InX h0 L e C m h' → Q .next ⟨h', g, d, tk, os⟩) :
    _root_.PySem.wpAt (model P w) A (.func body (ksEnv qual (defScope st) L f (.ref cda) cc)) (exec (.Expr (.Call (.Attribute (.Call (.Name "super" p0) [] [] p1) "__init__" p2) args [] p3) p4) (ksEnv qual (defScope st) L f (.ref cda) cc)) Q E ⟨h, g, d, t, os⟩ := by
  obtain ⟨ar, har, hars⟩ := X.hd
  obtain ⟨sk, sco, sg, scl, ssup, scls, sself, sps⟩ := X.sc
  obtain ⟨cnm, cq, cN, cbs, cbm, csn, csub, cab, ccol, cdd', k0, k1, k2, k3, k5, hC, hbm⟩ := X.cls.cls
  have KH : K.In h := KX.keeps I.k
  obtain ⟨t1, ho⟩ := I.o
  have hcd : clsIn K C = some { name := cnm, bases := cbs, mro := .ref C :: cbm, ns := cN, qualname := cq, hasDict := true, slotNames := csn, subclasses := csub, abstract := cab, collection := ccol, hasDel := false } := by unfold clsIn; rw [hC] <;> rfl
  have IA : InstAt h e (HandSPX.excO C t1) C none := ⟨ho, rfl, rfl, trivial⟩
  refine ks_wpAt_Expr_any (hs := hsw) (hi := by unfold interactive; simp [sk]) (ks_wpAt_MethodCall (he := hcall) (ks_wpAt_super_base (env := ksEnv qual (defScope st) L f (.ref cda) cc) ssup scls (by decide +kernel) rfl (KH _ _ lk) rfl har rfl (KH _ _ lc) rfl lv lf X.top ?_))
  · refine ks_loadName_global sk ssup (Calls.loadGlobal_builtin (env := ksEnv qual (defScope st) L f (.ref cda) cc) (G.keeps I.k) gs (B.keeps I.k) ((bb _ (by decide +kernel)).trans (by first | boot_by_name | rfl | kernel_rfl)) ⟨rfl, ?_⟩)
    refine wpAny_loadName_free sk scls rfl ⟨_, KH _ _ ll, rfl⟩ ?_
    rw [hars]
    refine wpAny_loadName_local sk sself I.n hm ?_
    refine ks_wpAny_isType_cls (KH _ _ hC) rfl ⟨rfl, ?_⟩
    refine ks_wpAny_call_super (KH _ _ hC) rfl ho rfl (fun c z => by cases z) (looks_mroIn KH X.own) (fun h1 e1 kk1 => ?_)
    have I1 := I.kept kk1
    have KH1 : K.In h1 := KX.keeps I1.k
    have hso := e1
    have hi1 : Looks (model P w) h1 (isInstance (.ref e) (.type "ValueError")) true := (show InstAt h1 e (HandSPX.excO C t1) C none from ⟨kk1 _ _ ho, rfl, rfl, trivial⟩).type.andThen (looks_subIn KH1 X.isV)
    have hsup := X.sup
    unfold ks_superIn at hsup
    rw [hcd] at hsup
    have hmro : Looks (model P w) h1 (mroOf (.ref C)) (.ref C :: cbm) := fun A Q E s k q => wpAny_bind ((looks_clsIn KH1 hcd) A _ E s k (wpAny_pure q))
    refine kxs_getMethod kxs_ValueError hso (looks_opaque KH1 X.opq) hmro rfl KH1 hsup hi1 (ks_ne KH IA hcd) (by decide +kernel) ?_
    have hu : (h1.push (mwV e)).get? h1.objs.size = some (mwV e) := Heap.get?_push_size _ rfl
    have I2 : InX h0 L e C m (h1.push (mwV e)) := I1.kept fun b o z => Heap.get?_push_of_some _ z
    have fin : ∀ s2 : Shared, s2.heap = h1.push (mwV e) → s2.gens = g → s2.drawn = d → s2.os = os → wpAny (model P w) A (call (.ref h1.objs.size) ws) (fun _ => Q .next) E s2 := by
      rintro ⟨hh, gg, d2, tk, o2⟩ rfl rfl rfl rfl
      obtain ⟨t2, ho2⟩ := I2.o
      refine call_mwV ((KX.keeps I2.k) _ _ hC) ho2 hu hz fun h' t3 kk e3 => hq h' _ ⟨fun b o z => kk b o (fun y => by rw [y, hne] at z; cases z) (I2.k b o z), ?_, t3, e3⟩
      obtain ⟨oL, es, ep, z1, z2⟩ := I2.n
      exact ⟨oL, es, ep, kk _ _ hLe z1, z2⟩
    rcases hargs with ⟨ea, ew⟩ | ⟨a, r, ea, hst, hpl, hev⟩
    · subst ea ew
      exact kxs_callWith (i := "ValueError.__init__") (x := e) rfl (PyProof.Rows.evalArgs_empty ⟨hu, fin _ rfl rfl rfl rfl⟩)
    · subst ea
      refine kxs_callWith (i := "ValueError.__init__") (x := e) (by rw [hst]; exact hpl) ?_
      have hx := hev ⟨h1.push (mwV e), g, d, t + 1, os⟩ (fun vs s1 => KxsAt "ValueError.__init__" h1.objs.size e s1.heap ∧ wpAny (model P w) A (call (.ref h1.objs.size) vs) (fun _ => Q .next) E s1) I2.n ⟨hu, fin _ rfl rfl rfl rfl⟩
      rw [hst] at hx ⊢
      exact Calls.evalArgs_plain hx
/-- .. once it has its dict -/
structure InD (h0 : Heap) (L e C dx : Addr) (m mA : Str → Option Value) (ns : List Str) (h : Heap) : Prop where
  k : ∀ b o, h0.get? b = some o → h.get? b = some o
  n : h.Ns L m
  o : ∃ t, h.get? e = some ({ cls := .ref C, dict := some dx, data := .fields #[.ref t, .none, .none, .none, .bool false, .none] } : Obj)
  d : h.Ns1 dx mA
  w : Within mA ns
  nd : h0.get? dx = none ∧ dx ≠ e ∧ dx ≠ L
variable {x x2 : Str} {v v2 : Value} {q0 q1 q2 q3 : Pos}
theorem store_first (X : XcK P K C f st ps) (KX : K.In h0) (I : InX h0 L e C m h) (hm : m "self" = some (.ref e)) (hxv : m x = some v) (hx : x ∈ ps) (hne : h0.get? e = none) (hLe : L ≠ e)
    (hs : swapsWith (.Name x q2) (some (.Attribute (.Name "self" q0) x q1)) q3.line (ksEnv qual (defScope st) L f (.ref cda) cc) = pure false) (hdb : (x == ("__debug__" : Str)) = false)
    {Q : Flow → Shared → Prop} (hq : ∀ h' tk dx, InD h0 L e C dx m (fun y => if y = x then some v else none) [x] h' → Q .next ⟨h', g, d, tk, os⟩) :
    _root_.PySem.wpAt (model P w) A (.func body (ksEnv qual (defScope st) L f (.ref cda) cc)) (exec (.Assign [.Attribute (.Name "self" q0) x q1] (.Name x q2) q3) (ksEnv qual (defScope st) L f (.ref cda) cc)) Q E ⟨h, g, d, t, os⟩ := by
  obtain ⟨sk, sco, sg, scl, ssup, scls, sself, sps⟩ := X.sc
  obtain ⟨cnm, cq, cN, cbs, cbm, csn, csub, cab, ccol, cdd', k0, k1, k2, k3, k5, hC, hbm⟩ := X.cls.cls
  have hcd : clsIn K C = some { name := cnm, bases := cbs, mro := .ref C :: cbm, ns := cN, qualname := cq, hasDict := true, slotNames := csn, subclasses := csub, abstract := cab, collection := ccol, hasDel := false } := by unfold clsIn; rw [hC] <;> rfl
  have KH : K.In h := KX.keeps I.k
  obtain ⟨t1, ho⟩ := I.o
  refine ks_wpAt_Assign_Attr (hs := hs) (wpAt_of_wpAny (wpAny_Name (wpAny_loadName_local sk (sps x hx) I.n hxv ?_) hdb))
  refine wpAny_Name (wpAny_loadName_local sk sself I.n hm ?_) (by decide +kernel)
  refine set_plain KH (ox := HandSPX.excO C t1) (od := none) ⟨ho, rfl, rfl, trivial⟩ X.cls.sa ?_
  refine HandSPX.exc_osa KH ho hcd (show HandSPX.refsVE (.ref C :: cbm) = true from hbm) rfl (X.no x hx) (fun h' tk' dx kk dn dne he' hn => ?_)
  obtain ⟨oL, es, ep, z1, z2⟩ := I.n
  have hnd : h0.get? dx = none := by
    cases z : h0.get? dx with
    | none => rfl
    | some o => exact absurd (Nat.lt_of_lt_of_le (Heap.lt_size (I.k _ _ z)) dn) (Nat.lt_irrefl _)
  exact hq h' tk' dx ⟨fun b o z => kk b o (fun y => by rw [y, hne] at z; cases z) (I.k b o z), ⟨oL, es, ep, kk _ _ hLe z1, z2⟩, ⟨t1, he'⟩, hn, Within.cons x v Within.nil, hnd, dne, Nat.ne_of_gt (Nat.lt_of_lt_of_le (Heap.lt_size z1) dn)⟩
theorem store_next {dx : Addr} {mA : Str → Option Value} {ns : List Str} (X : XcK P K C f st ps) (KX : K.In h0) (I : InD h0 L e C dx m mA ns h) (hns : ns.length ≤ 900) (hm : m "self" = some (.ref e)) (hxv : m x = some v) (hx : x ∈ ps)
    (hs : swapsWith (.Name x q2) (some (.Attribute (.Name "self" q0) x q1)) q3.line (ksEnv qual (defScope st) L f (.ref cda) cc) = pure false) (hdb : (x == ("__debug__" : Str)) = false)
    {Q : Flow → Shared → Prop} (hq : ∀ h' tk, InD h0 L e C dx m (fun y => if y = x then some v else mA y) (x :: ns) h' → Q .next ⟨h', g, d, tk, os⟩) :
    _root_.PySem.wpAt (model P w) A (.func body (ksEnv qual (defScope st) L f (.ref cda) cc)) (exec (.Assign [.Attribute (.Name "self" q0) x q1] (.Name x q2) q3) (ksEnv qual (defScope st) L f (.ref cda) cc)) Q E ⟨h, g, d, t, os⟩ := by
  obtain ⟨sk, sco, sg, scl, ssup, scls, sself, sps⟩ := X.sc
  obtain ⟨cnm, cq, cN, cbs, cbm, csn, csub, cab, ccol, cdd', k0, k1, k2, k3, k5, hC, hbm⟩ := X.cls.cls
  have hcd : clsIn K C = some { name := cnm, bases := cbs, mro := .ref C :: cbm, ns := cN, qualname := cq, hasDict := true, slotNames := csn, subclasses := csub, abstract := cab, collection := ccol, hasDel := false } := by unfold clsIn; rw [hC] <;> rfl
  have KH : K.In h := KX.keeps I.k
  obtain ⟨t1, ho⟩ := I.o
  obtain ⟨oD, _, _, hoD, _, _⟩ := I.d.count I.w
  refine ks_wpAt_Assign_Attr (hs := hs) (wpAt_of_wpAny (wpAny_Name (wpAny_loadName_local sk (sps x hx) I.n hxv ?_) hdb))
  refine wpAny_Name (wpAny_loadName_local sk sself I.n hm ?_) (by decide +kernel)
  refine set_plain KH (ox := { cls := .ref C, dict := some dx, data := .fields #[.ref t1, .none, .none, .none, .bool false, .none] }) (od := some oD) ⟨ho, rfl, rfl, hoD⟩ X.cls.sa ?_
  refine OEX.osa_old KH ho I.d I.w (by omega) hcd (show HandSPX.refsVE (.ref C :: cbm) = true from hbm) rfl (X.no x hx) (fun h' tk' kk hn => ?_)
  obtain ⟨oL, es, ep, z1, z2⟩ := I.n
  exact hq h' tk' ⟨fun b o z => kk b o (fun y => by rw [y, I.nd.1] at z; cases z) (I.k b o z), ⟨oL, es, ep, kk _ _ (Ne.symm I.nd.2.2) z1, z2⟩, ⟨t1, kk _ _ (Ne.symm I.nd.2.1) ho⟩, hn, Within.cons x v I.w, I.nd⟩
end

/-! ### __init__ called -/
section
variable {P : Program} {w : World} {K : Frag} {A : Around} {C f : Addr} {st : Stmt} {mg mb : Str → Option Value} {e t0 : Addr} {s : Shared} {args : Args} {R : Result → Shared → Prop} {x x2 : Str} {v v2 : Value} {p0 p1 p2 p3 p4 p5 q0 q1 q2 q3 : Pos} {p6 r0 r1 r2 r3 : Pos} {h0 : Heap}
/-- __init__ with one field -/
theorem init1 (X : XcK P K C f st [x]) (KX : K.In h0) (nl : h0.NoLimit) (G : h0.Ns mainGlobals mg) (gs : mg "super" = none) (B : h0.Ns builtinsNs mb) (bb : ∀ x : Str, x ≠ "__name__" → mb x = bootBuiltins x) (hr : A.depth < recursionLimit)
    (kk : ∀ b o, h0.get? b = some o → s.heap.get? b = some o) (he : s.heap.get? e = some (HandSPX.excO C t0)) (hne : h0.get? e = none)
    (hbody : defBody st = [.Expr (.Call (.Attribute (.Call (.Name "super" p0) [] [] p1) "__init__" p2) [.Name x p5] [] p3) p4, .Assign [.Attribute (.Name "self" q0) x q1] (.Name x q2) q3])
    (hbind : ∀ (qual : Str) (kV doc pm : Value) (an : Option Addr) (cd ct : Value) (cc : Addr), BindsTo s (ksFn "__init__" qual (defArgs st) (defBody st) (defScope st) .none kV doc pm an cd ct cc) args [("self", .ref e), (x, v)])
    (hcall : ∀ (qual : Str) (L cda cc : Addr), ∃ pl : Sem Bool, eval (.Call (.Attribute (.Call (.Name "super" p0) [] [] p1) "__init__" p2) [.Name x p5] [] p3) (ksEnv qual (defScope st) L f (.ref cda) cc) = (do
      let ov ← attributeBase (.Call (.Name "super" p0) [] [] p1) "__init__" (ksEnv qual (defScope st) L f (.ref cda) cc) (eval (.Call (.Name "super" p0) [] [] p1) (ksEnv qual (defScope st) L f (.ref cda) cc))
      standAt p2.atName
      let (fv, first) ← holding [ov] (getMethod ov "__init__" pl)
      callWith p3 fv first (backTo p3 (starEach [.Name x p5] (ksEnv qual (defScope st) L f (.ref cda) cc))) []))
    (hsw : ∀ (qual : Str) (L cda cc : Addr), swapsWith (.Call (.Attribute (.Call (.Name "super" p0) [] [] p1) "__init__" p2) [.Name x p5] [] p3) none p4.line (ksEnv qual (defScope st) L f (.ref cda) cc) = pure false ∧
      swapsWith (.Name x q2) (some (.Attribute (.Name "self" q0) x q1)) q3.line (ksEnv qual (defScope st) L f (.ref cda) cc) = pure false)
    (hdb : (x == ("__debug__" : Str)) = false) (hxs : ("self" : Str) ≠ x)
    (hR : ∀ h' tk dx, (∀ b o, h0.get? b = some o → h'.get? b = some o) → (∃ t, h'.get? e = some ({ cls := .ref C, dict := some dx, data := .fields #[.ref t, .none, .none, .none, .bool false, .none] } : Obj)) → h'.Ns1 dx (fun y => if y = x then some v else none) →
      h0.get? dx = none → dx ≠ e → R (.ok (.ret .none)) ⟨h', s.gens, s.drawn, tk, s.os⟩) : codeAny (model P w) A (.call (.ref f) args) R s := by
  obtain ⟨oc, od, qual, kV, doc, pm, an, cda, cc, ct, osl, lk, hcd, ⟨ccl, cdd, vs, ccs, file, tf, lc, lv, lf⟩, cl, cld, csl, ll⟩ := X.fn
  obtain ⟨sk, sco, sg, scl, ssup, scls, sself, sps⟩ := X.sc
  have KH : K.In s.heap := KX.keeps kk
  refine ks_codeAny_call_defAt (fd := ksFn "__init__" qual (defArgs st) (defBody st) (defScope st) .none kV doc pm an (.ref cda) ct cc) hr (KH _ _ lk) rfl (nl.keeps kk) (codeRec_of KH hcd) rfl (hbind qual kV doc pm an (.ref cda) ct cc) scl (fun y hy => ?_) (fun h1 hns hk1 => ?_) sco sg sk
  · rcases List.mem_cons.mp hy with z | z
    · rw [z]; exact sself
    · have z2 : y = (x, v) := by simpa using z
      rw [z2]; exact sps x List.mem_cons_self
  · have hLe : s.heap.objs.size ≠ e := Nat.ne_of_gt (Heap.lt_size he)
    have m1 : (fun y => ([("self", Value.ref e), (x, v)] : List (Str × Value)).reverse.lookup y) "self" = some (.ref e) := by
      have : (("self" : Str) == x) = false := by simpa using hxs
      simp [List.lookup, this]
    have m2 : (fun y => ([("self", Value.ref e), (x, v)] : List (Str × Value)).reverse.lookup y) x = some v := by simp [List.lookup]
    have I : InX h0 s.heap.objs.size e C _ h1 := ⟨fun b o z => hk1 _ _ (kk b o z), hns, t0, hk1 _ _ he⟩
    obtain ⟨pl, hcl⟩ := hcall qual s.heap.objs.size cda cc
    rw [hbody]
    refine ks_wpAt_execs_cons (super_stmt X KX G gs B bb lk lc lv lf ll I m1 hne hLe (ws := [v]) (by show 1 ≤ sizeLine; rw [sizeLine_eq]; omega) (.inr ⟨_, [], rfl, rfl, rfl, fun s1 Q1 hn hq => ?_⟩) hcl (hsw qual _ cda cc).1 fun h2 tk I2 => ?_)
    · show wpAny _ _ (spliced ((false, eval (.Name x p5) _) :: backTo p3 (starEach [] _))) _ _ s1
      exact Calls.spliced_cons (wpAny_Name (wpAny_loadName_local sk (sps x List.mem_cons_self) hn m2 (Calls.spliced_nil hq)) hdb)
    · refine ks_wpAt_execs_cons (store_first X KX I2 m1 m2 List.mem_cons_self hne hLe (hsw qual _ cda cc).2 hdb fun h3 tk3 dx I3 => ?_)
      exact wpAt_of_wpAny (wpAny_execs_nil (hR h3 tk3 dx I3.k I3.o I3.d I3.nd.1 I3.nd.2.1))
end
end DL

set_option Elab.async false
set_option linter.all false
set_option maxRecDepth 100000
set_option maxHeartbeats 4000000
namespace DL
open PySem L2 PySem.W PySem.HandSPX
/-! ### C(.., k = ..) of an exception class: the same with keywords -/
section
variable {P : Program} {w : World} {M : Model} {A : Around} {E : Value → Shared → Prop} {R : Result → Shared → Prop} {h : Heap} {g : Array GenState} {d : Drawn} {t : Nat} {os : OsState} {kw : List (Str × Value)}
variable {nm q : Str} {C N : Addr} {bs bm : List Value} {hdct : Bool} {sn : List Str} {sub : List Value} {ab : Bool} {col : Option Bool} {dd : Option Addr} {k0 k1 k2 k3 k5 : Option Value}
theorem kwCheckNew (hT : refsVE bm = true) {rest : List Value} {Q : Unit → Shared → Prop} (hC : h.get? C = some (excClassObj nm q C N bs bm hdct sn sub ab col dd k0 k1 k2 k3 k5 "ValueError.__new__")) (hq : Q () ⟨h, g, d, t, os⟩) :
    wpAny M A (checkBuiltinCall "ValueError.__new__" ⟨.ref C :: rest, kw⟩) Q E ⟨h, g, d, t, os⟩ := by
  have FB := F.excBase_ValueError
  have hin : (Value.ref C :: bm).contains (.type "ValueError") = true := by rw [List.contains_cons, refsVE_contains "ValueError" _ hT, FB.hasB, Bool.or_true]
  have hstar := FB.noStar
  simp only [checkBuiltinCall, FB.newKind, FB.newSplit, FB.newRow]
  repeat (first
    | refine wpAny_loadPart_at hC ?_
    | (refine wpAny_isSubtype_exc hC ?_; rw [hin])
    | refine wpAny_staticBase_exc hC ?_
    | refine wpAny_madeBy_exc hC ?_
    | simp only [bne_self_eq_false, Bool.false_eq_true, if_false]
    | wp_step)
  all_goals first | exact hq | skip
theorem kwNew (hT : refsVE bm = true) {rest : List Value} (hC : h.get? C = some (excClassObj nm q C N bs bm hdct sn sub ab col dd k0 k1 k2 k3 k5 "ValueError.__new__")) (hz : rest.length ≤ sizeLine)
    (hq : R (.ok (.ret (.ref (h.objs.size + 1)))) ⟨(h.push (kdv_tup rest)).push (excO C h.objs.size), g, d, t, os⟩) :
    codeAny (model P w) A (.builtin "ValueError.__new__" ⟨.ref C :: rest, kw⟩) R ⟨h, g, d, t, os⟩ := by
  have FB := F.excBase_ValueError
  have hends := FB.ends
  have c1 : (Value.ref C :: bm).contains (.type "ValueError") = true := by rw [List.contains_cons, refsVE_contains "ValueError" _ hT, FB.hasB, Bool.or_true]
  have c2 : (Value.ref C :: bm).contains (.type "AttributeError") = false := by rw [List.contains_cons, refsVE_contains "AttributeError" _ hT, FB.noAttr]; rfl
  have c3 : (Value.ref C :: bm).contains (.type "NameError") = false := by rw [List.contains_cons, refsVE_contains "NameError" _ hT, FB.noName]; rfl
  refine codeAny_builtinAt FB.entry ?_
  unfold Builtin.«BaseException.__new__»
  refine wpAt_bind ?_
  show wpAt _ _ _ (stack >>= _) _ _ _
  refine wpAt_bind (wpAt_stack fun p below => wpAt_of_wpAny ?_)
  wp_walk
  refine wpAt_of_wpAny ?_
  rw [FB.owner]
  repeat (first
    | with_reducible refine wpAny_madeHere_exc FB.canon hC ?_
    | with_reducible refine wpAny_loadPart_at hC ?_
    | (with_reducible refine wpAny_isSubtype_exc hC ?_; first | rw [c1] | rw [c2] | rw [c3])
    | wp_step)
  show R _ _
  rw [Heap.size_push]
  exact hq
theorem kwTypeCall (hT : refsVE bm = true) {rest : List Value} {fI : Addr} {Q : Fin → Shared → Prop} (hC : h.get? C = some (excClassObj nm q C N bs bm hdct sn sub ab col dd k0 k1 k2 k3 k5 "ValueError.__new__"))
    (hi : Looks (model P w) h (typeLookup (.ref C) "__init__") (some (.ref fI))) (hb : ∀ self, Looks (model P w) h (bindSpecial (.ref fI) self) (.ref fI, [self])) (hz : rest.length ≤ sizeLine)
    (hq : codeAny (model P w) A (.call (.ref fI) ⟨.ref (h.objs.size + 1) :: rest, kw⟩) (fun r s' => match r with | .ok (.ret v) => v = .none ∧ Q (.done (.ret (.ref (h.objs.size + 1)))) s' | .ok _ => False | .error e => E e s')
      ⟨(h.push (kdv_tup rest)).push (excO C h.objs.size), g, d, t, os⟩) : wpAny (model P w) A (Builtin.«type.__call__» ⟨.ref C :: rest, kw⟩) Q E ⟨h, g, d, t, os⟩ := by
  have FB := F.excBase_ValueError
  repeat (first | with_reducible refine wpAny_loadPart_at hC ?_ | with_reducible refine wpAny_madeBy_exc hC ?_ | wp_step)
  refine codeAny_call_builtin_code (Code.quiet_builtin _ FB.quiet) (kwCheckNew hT hC (kwNew hT hC hz ?_))
  show wpAny _ _ _ _ _ _
  have kk : ∀ b o, h.get? b = some o → ((h.push (kdv_tup rest)).push (excO C h.objs.size)).get? b = some o :=
    fun b o z => Heap.get?_push_of_some _ (Heap.get?_push_of_some _ z)
  have hC1 := kk _ _ hC
  have hat : ((h.push (kdv_tup rest)).push (excO C h.objs.size)).get? (h.objs.size + 1) = some (excO C h.objs.size) := by heap_get
  have self1 : (Value.ref C :: bm).contains (.ref C) = true := by simp
  unfold isInstance
  repeat (first
    | with_reducible refine wpAny_loadPart_at hat ?_
    | (with_reducible refine wpAny_isSubtype_exc hC1 ?_; rw [self1])
    | wp_step)
  show wpAny _ _ (typeLookup (.ref C) _) _ _ _
  refine (hi.keeps kk).at (wpAny_holding (wpAny_bind (((hb (.ref (h.objs.size + 1))).keeps kk).at ?_)))
  refine wpAny_bind (wpAny_call (codeAny_mono hq fun r s' z => ?_))
  rcases r with e | (v | _ | _ | _) <;> first | exact z | exact z.elim | skip
  obtain ⟨rfl, z⟩ := z
  first
    | exact wpAny_pure (wpAny_pure z)
    | (wp_walk; exact z)
theorem kwCall (hT : refsVE bm = true) {rest : List Value} {fI : Addr} (hC : h.get? C = some (excClassObj nm q C N bs bm hdct sn sub ab col dd k0 k1 k2 k3 k5 "ValueError.__new__"))
    (hi : Looks (model P w) h (typeLookup (.ref C) "__init__") (some (.ref fI))) (hb : ∀ self, Looks (model P w) h (bindSpecial (.ref fI) self) (.ref fI, [self])) (hz : rest.length ≤ sizeLine)
    (hq : codeAny (model P w) (A.under (.builtin "type.__call__" ⟨.ref C :: rest, kw⟩)) (.call (.ref fI) ⟨.ref (h.objs.size + 1) :: rest, kw⟩) (InitBack (h.objs.size + 1) R)
      ⟨(h.push (kdv_tup rest)).push (excO C h.objs.size), g, d, t, os⟩) : codeAny (model P w) A (.call (.ref C) ⟨rest, kw⟩) R ⟨h, g, d, t, os⟩ := by
  have f1 := tc_lookup
  have f2 := tc_bind (.ref C)
  have hTy : (⟨h, g, d, t, os⟩ : Shared).TypeIs (.ref C) "type" := ⟨_, hC, rfl⟩
  refine codeAny_of_tree ?_
  show wpAny _ _ (callAny (.ref C) _) _ _ _
  repeat (any_goals (first | assumption | with_reducible refine wpAny_loadPart_at hC ?_ | wp_step))
  refine ⟨rfl, codeAny_call_builtin_at (Code.quiet_builtin _ (by decide +kernel)) entry_typeCall (wpAny_check_type_call_sub hC (kwTypeCall hT hC hi hb hz (codeAny_mono hq fun r s' z => ?_)))⟩
  rcases r with e | (v | _ | _ | _) <;> exact z
end
end DL

set_option Elab.async false
set_option linter.all false
set_option maxRecDepth 100000
set_option maxHeartbeats 4000000
namespace DL
open PySem L2 PySem.W PySem.HandSPX

/-! ### a new exception, as a value -/
/-- the exception at e with its dict od, whose fields are those of ps and vs -/
def MadeX (h h' : Heap) (C e : Addr) (od : Option Addr) (ps : List Str) (vs : List Value) : Prop :=
  (∀ b o, h.get? b = some o → h'.get? b = some o) ∧ h.get? e = none ∧ (∃ t, h'.get? e = some ({ cls := .ref C, dict := od, data := .fields #[.ref t, .none, .none, .none, .bool false, .none] } : Obj)) ∧
  (match od with | some dx => h'.Ns1 dx (fun y => (ps.zip vs).lookup y) ∧ h.get? dx = none ∧ dx ≠ e | none => ps = [])
/-- the call of the class C with the values vs, in the form fm, makes such a one -/
structure XcI (P : Program) (w : World) (K : Frag) (mg : Str → Option Value) (C : Addr) (ps : List Str) (fm : List Value → List Value × List (Str × Value)) : Prop where
  kC : keepIn K (.ref C) = true
  run : ∀ (A : Around) (h : Heap) (g : Array GenState) (d : Drawn) (t : Nat) (os : OsState) (mb : Str → Option Value) (vs : List Value) (Q : Value → Shared → Prop) (E : Value → Shared → Prop), vs.length = ps.length → K.In h → h.NoLimit → h.Ns mainGlobals mg → h.Ns builtinsNs mb →
    (∀ x : Str, x ≠ "__name__" → mb x = bootBuiltins x) → A.depth + 5 < recursionLimit → (∀ h' tk e od, MadeX h h' C e od ps vs → Q (.ref e) ⟨h', g, d, tk, os⟩) → wpAny (model P w) A (call (.ref C) (fm vs).1 (fm vs).2) Q E ⟨h, g, d, t, os⟩

section
variable {X : Cx} {pins : List (Addr × Obj)} {σ : St} {H : Hp} {s : Shared} {C : Addr}
/-- it is laid and tracked, with its dict -/
theorem Inv.madeX {h' : Heap} {t' : Nat} {e : Addr} {od : Option Addr} {ps : List Str} {us : List Value} {vs : List V} (I : Inv X pins σ H s) (mx : MadeX s.heap h' C e od ps us) (r : Vals vs us) (hl : us.length = ps.length) :
    ∃ H', Inv X pins σ H' { s with heap := h', toks := t' } ∧ Same H H' ∧ H' e = some (ExD C e od) ∧ H e = none ∧ (match od with | some dx => H' dx = some (.xd (ps.zip vs)) ∧ H dx = none | none => ps = []) := by
  obtain ⟨k, ne, ⟨t, he⟩, hd⟩ := mx
  have hne : H e = none := I.hok.gone ne
  have ho : ∀ {H2 : Hp}, ObjOk X.prog X.w H2 h' e (ExD C e od) := ⟨⟨_, _, he, rfl, rfl, rfl, rfl, rfl, (by show 4 < 6; decide)⟩, ⟨_, he⟩, fun h1 h2 ⟨oe, vs, q, rest⟩ kk => ⟨oe, vs, kk _ q, rest⟩⟩
  cases od with
  | none =>
    have I1 : Inv X pins σ (upd H e (ExD C e none)) { s with heap := h', toks := t' } := I.laidN (t' := t') k ne hne ho
    exact ⟨_, I1, same_new hne, upd_same, hne, hd⟩
  | some dx =>
    obtain ⟨hns, nd, nde⟩ := hd
    have hnd : H dx = none := I.hok.gone nd
    have e1 : ∀ {b : Addr} {o : Obj}, s.heap.get? b = some o → b ≠ e ∧ b ≠ dx := fun {b o} q => by
      refine ⟨fun z => ?_, fun z => ?_⟩
      · rw [z, ne] at q
        cases q
      · rw [z, nd] at q
        cases q
    have e2 : ∀ {b : Addr} {o : HO}, H b = some o → b ≠ e ∧ b ≠ dx := fun {b o} q => ⟨ne_of_none q hne, ne_of_none q hnd⟩
    have up : ∀ {b : Addr} {o : HO}, H b = some o → upd (upd H dx (.xd (ps.zip vs))) e (ExD C e (some dx)) b = some o := fun q => by rw [upd_ne (e2 q).1, upd_ne (e2 q).2]; exact q
    refine ⟨upd (upd H dx (.xd (ps.zip vs))) e (ExD C e (some dx)), I.un (t' := t') ⟨fun b o q _ _ _ => k b o q, fun b o q _ _ _ => ⟨o.slots, k b o q⟩, fun b o q n _ => ?_, fun b o q _ => ⟨o, k b o q⟩, fun b xs q => up q, fun b o u q => up q, fun b qs q => ⟨#[], by rw [up q]; simp⟩⟩ fun b o q => ?_, fun b o q => up q, upd_same, hne, ?_, hnd⟩
    · rw [upd_ne (e1 q).1, upd_ne (e1 q).2]
      exact n
    · by_cases hb : b = e
      · subst hb
        rw [upd_same] at q
        cases q
        exact ho
      · rw [upd_ne hb] at q
        by_cases hb2 : b = dx
        · subst hb2
          rw [upd_same] at q
          cases q
          refine ⟨_, hns, fun f => ?_⟩
          have key : ∀ (qs : List Str) (xs : List V) (us : List Value), Vals xs us → RelO ((qs.zip xs).lookup f) ((qs.zip us).lookup f) := by
            intro qs
            induction qs with
            | nil => intro xs us _; exact True.intro
            | cons y ys ih =>
              intro xs us rr
              cases rr with
              | nil => exact True.intro
              | cons a b =>
                simp only [List.zip_cons_cons, List.lookup_cons]
                split
                · exact a
                · exact ih _ _ b
          exact key ps vs us r
        · rw [upd_ne hb2] at q
          exact (I.hok b o q).stay (fun c u _ z => k c u z) (fun c z => up z) fun c xs z => up z
    · rw [upd_ne nde, upd_same]
end

section
variable {P : Program} {w : World} {K : Frag} {A : Around} {C f : Addr} {st : Stmt} {mg mb : Str → Option Value} {e t0 : Addr} {s : Shared} {args : Args} {R : Result → Shared → Prop} {x x2 : Str} {v v2 : Value} {p0 p1 p2 p3 p4 p5 p6 q0 q1 q2 q3 r0 r1 r2 r3 : Pos} {h0 : Heap}
/-- __init__ with two fields -/
theorem init2 (X : XcK P K C f st [x, x2]) (KX : K.In h0) (nl : h0.NoLimit) (G : h0.Ns mainGlobals mg) (gs : mg "super" = none) (B : h0.Ns builtinsNs mb) (bb : ∀ x : Str, x ≠ "__name__" → mb x = bootBuiltins x) (hr : A.depth < recursionLimit)
    (kk : ∀ b o, h0.get? b = some o → s.heap.get? b = some o) (he : s.heap.get? e = some (excO C t0)) (hne : h0.get? e = none)
    (hbody : defBody st = [.Expr (.Call (.Attribute (.Call (.Name "super" p0) [] [] p1) "__init__" p2) [.Name x p5, .Name x2 p6] [] p3) p4, .Assign [.Attribute (.Name "self" q0) x q1] (.Name x q2) q3, .Assign [.Attribute (.Name "self" r0) x2 r1] (.Name x2 r2) r3])
    (hbind : ∀ (qual : Str) (kV doc pm : Value) (an : Option Addr) (cd ct : Value) (cc : Addr), BindsTo s (ksFn "__init__" qual (defArgs st) (defBody st) (defScope st) .none kV doc pm an cd ct cc) args [("self", .ref e), (x, v), (x2, v2)])
    (hcall : ∀ (qual : Str) (L cda cc : Addr), ∃ pl : Sem Bool, eval (.Call (.Attribute (.Call (.Name "super" p0) [] [] p1) "__init__" p2) [.Name x p5, .Name x2 p6] [] p3) (ksEnv qual (defScope st) L f (.ref cda) cc) = (do
      let ov ← attributeBase (.Call (.Name "super" p0) [] [] p1) "__init__" (ksEnv qual (defScope st) L f (.ref cda) cc) (eval (.Call (.Name "super" p0) [] [] p1) (ksEnv qual (defScope st) L f (.ref cda) cc))
      standAt p2.atName
      let (fv, first) ← holding [ov] (getMethod ov "__init__" pl)
      callWith p3 fv first (backTo p3 (starEach [.Name x p5, .Name x2 p6] (ksEnv qual (defScope st) L f (.ref cda) cc))) []))
    (hsw : ∀ (qual : Str) (L cda cc : Addr), swapsWith (.Call (.Attribute (.Call (.Name "super" p0) [] [] p1) "__init__" p2) [.Name x p5, .Name x2 p6] [] p3) none p4.line (ksEnv qual (defScope st) L f (.ref cda) cc) = pure false ∧
      swapsWith (.Name x q2) (some (.Attribute (.Name "self" q0) x q1)) q3.line (ksEnv qual (defScope st) L f (.ref cda) cc) = pure false ∧ swapsWith (.Name x2 r2) (some (.Attribute (.Name "self" r0) x2 r1)) r3.line (ksEnv qual (defScope st) L f (.ref cda) cc) = pure false)
    (hdb : (x == ("__debug__" : Str)) = false ∧ (x2 == ("__debug__" : Str)) = false) (hxs : ("self" : Str) ≠ x ∧ ("self" : Str) ≠ x2 ∧ x ≠ x2)
    (hR : ∀ h' tk dx, (∀ b o, h0.get? b = some o → h'.get? b = some o) → (∃ t, h'.get? e = some ({ cls := .ref C, dict := some dx, data := .fields #[.ref t, .none, .none, .none, .bool false, .none] } : Obj)) → h'.Ns1 dx (fun y => if y = x2 then some v2 else if y = x then some v else none) →
      h0.get? dx = none → dx ≠ e → R (.ok (.ret .none)) ⟨h', s.gens, s.drawn, tk, s.os⟩) : codeAny (model P w) A (.call (.ref f) args) R s := by
  obtain ⟨oc, od, qual, kV, doc, pm, an, cda, cc, ct, osl, lk, hcd, ⟨ccl, cdd, vs, ccs, file, tf, lc, lv, lf⟩, cl, cld, csl, ll⟩ := X.fn
  obtain ⟨sk, sco, sg, scl, ssup, scls, sself, sps⟩ := X.sc
  have KH : K.In s.heap := KX.keeps kk
  have i1 : x ∈ [x, x2] := List.mem_cons_self
  have i2 : x2 ∈ [x, x2] := List.mem_cons_of_mem _ List.mem_cons_self
  refine ks_codeAny_call_defAt (fd := ksFn "__init__" qual (defArgs st) (defBody st) (defScope st) .none kV doc pm an (.ref cda) ct cc) hr (KH _ _ lk) rfl (nl.keeps kk) (codeRec_of KH hcd) rfl (hbind qual kV doc pm an (.ref cda) ct cc) scl (fun y hy => ?_) (fun h1 hns hk1 => ?_) sco sg sk
  · rcases List.mem_cons.mp hy with z | z
    · rw [z]; exact sself
    · rcases List.mem_cons.mp z with z | z
      · rw [z]; exact sps x i1
      · have z2 : y = (x2, v2) := by simpa using z
        rw [z2]; exact sps x2 i2
  · have hLe : s.heap.objs.size ≠ e := Nat.ne_of_gt (Heap.lt_size he)
    have n1 : (("self" : Str) == x) = false := by simpa using hxs.1
    have n2 : (("self" : Str) == x2) = false := by simpa using hxs.2.1
    have n3 : (x == x2) = false := by simpa using hxs.2.2
    have m1 : (fun y => ([("self", Value.ref e), (x, v), (x2, v2)] : List (Str × Value)).reverse.lookup y) "self" = some (.ref e) := by simp [List.lookup, n1, n2]
    have m2 : (fun y => ([("self", Value.ref e), (x, v), (x2, v2)] : List (Str × Value)).reverse.lookup y) x = some v := by simp [List.lookup, n3]
    have m3 : (fun y => ([("self", Value.ref e), (x, v), (x2, v2)] : List (Str × Value)).reverse.lookup y) x2 = some v2 := by simp [List.lookup]
    have I : InX h0 s.heap.objs.size e C _ h1 := ⟨fun b o z => hk1 _ _ (kk b o z), hns, t0, hk1 _ _ he⟩
    obtain ⟨pl, hcl⟩ := hcall qual s.heap.objs.size cda cc
    rw [hbody]
    refine ks_wpAt_execs_cons (super_stmt X KX G gs B bb lk lc lv lf ll I m1 hne hLe (ws := [v, v2]) (by show 2 ≤ sizeLine; rw [sizeLine_eq]; omega) (.inr ⟨_, _, rfl, rfl, rfl, fun s1 Q1 hn hq => ?_⟩) hcl (hsw qual _ cda cc).1 fun h2 tk I2 => ?_)
    · show wpAny _ _ (spliced ((false, eval (.Name x p5) _) :: backTo p3 (starEach [.Name x2 p6] _))) _ _ s1
      refine Calls.spliced_cons (wpAny_Name (wpAny_loadName_local sk (sps x i1) hn m2 ?_) hdb.1)
      show wpAny _ _ (spliced ((false, eval (.Name x2 p6) _) :: backTo p3 (starEach [] _))) _ _ s1
      exact Calls.spliced_cons (wpAny_Name (wpAny_loadName_local sk (sps x2 i2) hn m3 (Calls.spliced_nil hq)) hdb.2)
    · refine ks_wpAt_execs_cons (store_first X KX I2 m1 m2 i1 hne hLe (hsw qual _ cda cc).2.1 hdb.1 fun h3 tk3 dx I3 => ?_)
      refine ks_wpAt_execs_cons (store_next X KX I3 (by show 1 ≤ 900; decide) m1 m3 i2 (hsw qual _ cda cc).2.2 hdb.2 fun h4 tk4 I4 => ?_)
      exact wpAt_of_wpAny (wpAny_execs_nil (hR h4 tk4 dx I4.k I4.o I4.d I4.nd.1 I4.nd.2.1))
/-- __init__ without fields -/
theorem init0 (X : XcK P K C f st []) (KX : K.In h0) (nl : h0.NoLimit) (G : h0.Ns mainGlobals mg) (gs : mg "super" = none) (B : h0.Ns builtinsNs mb) (bb : ∀ x : Str, x ≠ "__name__" → mb x = bootBuiltins x) (hr : A.depth < recursionLimit)
    (kk : ∀ b o, h0.get? b = some o → s.heap.get? b = some o) (he : s.heap.get? e = some (excO C t0)) (hne : h0.get? e = none)
    (hbody : defBody st = [.Expr (.Call (.Attribute (.Call (.Name "super" p0) [] [] p1) "__init__" p2) [] [] p3) p4])
    (hbind : ∀ (qual : Str) (kV doc pm : Value) (an : Option Addr) (cd ct : Value) (cc : Addr), BindsTo s (ksFn "__init__" qual (defArgs st) (defBody st) (defScope st) .none kV doc pm an cd ct cc) args [("self", .ref e)])
    (hcall : ∀ (qual : Str) (L cda cc : Addr), ∃ pl : Sem Bool, eval (.Call (.Attribute (.Call (.Name "super" p0) [] [] p1) "__init__" p2) [] [] p3) (ksEnv qual (defScope st) L f (.ref cda) cc) = (do
      let ov ← attributeBase (.Call (.Name "super" p0) [] [] p1) "__init__" (ksEnv qual (defScope st) L f (.ref cda) cc) (eval (.Call (.Name "super" p0) [] [] p1) (ksEnv qual (defScope st) L f (.ref cda) cc))
      standAt p2.atName
      let (fv, first) ← holding [ov] (getMethod ov "__init__" pl)
      callWith p3 fv first (backTo p3 (starEach [] (ksEnv qual (defScope st) L f (.ref cda) cc))) []))
    (hsw : ∀ (qual : Str) (L cda cc : Addr), swapsWith (.Call (.Attribute (.Call (.Name "super" p0) [] [] p1) "__init__" p2) [] [] p3) none p4.line (ksEnv qual (defScope st) L f (.ref cda) cc) = pure false)
    (hR : ∀ h' tk, (∀ b o, h0.get? b = some o → h'.get? b = some o) → (∃ t, h'.get? e = some ({ cls := .ref C, dict := none, data := .fields #[.ref t, .none, .none, .none, .bool false, .none] } : Obj)) → R (.ok (.ret .none)) ⟨h', s.gens, s.drawn, tk, s.os⟩) :
    codeAny (model P w) A (.call (.ref f) args) R s := by
  obtain ⟨oc, od, qual, kV, doc, pm, an, cda, cc, ct, osl, lk, hcd, ⟨ccl, cdd, vs, ccs, file, tf, lc, lv, lf⟩, cl, cld, csl, ll⟩ := X.fn
  obtain ⟨sk, sco, sg, scl, ssup, scls, sself, sps⟩ := X.sc
  have KH : K.In s.heap := KX.keeps kk
  refine ks_codeAny_call_defAt (fd := ksFn "__init__" qual (defArgs st) (defBody st) (defScope st) .none kV doc pm an (.ref cda) ct cc) hr (KH _ _ lk) rfl (nl.keeps kk) (codeRec_of KH hcd) rfl (hbind qual kV doc pm an (.ref cda) ct cc) scl (fun y hy => ?_) (fun h1 hns hk1 => ?_) sco sg sk
  · have z2 : y = (("self" : Str), Value.ref e) := by simpa using hy
    rw [z2]; exact sself
  · have hLe : s.heap.objs.size ≠ e := Nat.ne_of_gt (Heap.lt_size he)
    have m1 : (fun y => ([("self", Value.ref e)] : List (Str × Value)).reverse.lookup y) "self" = some (.ref e) := by simp [List.lookup]
    have I : InX h0 s.heap.objs.size e C _ h1 := ⟨fun b o z => hk1 _ _ (kk b o z), hns, t0, hk1 _ _ he⟩
    obtain ⟨pl, hcl⟩ := hcall qual s.heap.objs.size cda cc
    rw [hbody]
    refine ks_wpAt_execs_cons (super_stmt X KX G gs B bb lk lc lv lf ll I m1 hne hLe (ws := []) (by show 0 ≤ sizeLine; omega) (.inl ⟨rfl, rfl⟩) hcl (hsw qual _ cda cc) fun h2 tk I2 => ?_)
    exact wpAt_of_wpAny (wpAny_execs_nil (hR h2 tk I2.k I2.o))
end

section
variable {P : Program} {w : World} {K : Frag} {C f : Addr} {st : Stmt} {mg : Str → Option Value} {ps : List Str} {fm : List Value → List Value × List (Str × Value)}
/-- how __init__ at f runs on a new object -/
def IniR (P : Program) (w : World) (K : Frag) (mg : Str → Option Value) (C f : Addr) (ps : List Str) (fm : List Value → List Value × List (Str × Value)) : Prop :=
  ∀ (A : Around) (h0 : Heap) (s : Shared) (e t0 : Addr) (mb : Str → Option Value) (vs : List Value) (R : Result → Shared → Prop), vs.length = ps.length → K.In h0 → h0.NoLimit → h0.Ns mainGlobals mg → h0.Ns builtinsNs mb → (∀ x : Str, x ≠ "__name__" → mb x = bootBuiltins x) →
    A.depth < recursionLimit → (∀ b o, h0.get? b = some o → s.heap.get? b = some o) → s.heap.get? e = some (excO C t0) → h0.get? e = none →
    (∀ h' tk od, MadeX h0 h' C e od ps vs → R (.ok (.ret .none)) ⟨h', s.gens, s.drawn, tk, s.os⟩) → codeAny (model P w) A (.call (.ref f) ⟨.ref e :: (fm vs).1, (fm vs).2⟩) R s
theorem xcI (X : XcK P K C f st ps) (hini : IniR P w K mg C f ps fm) (hfm : ∀ vs, vs.length = ps.length → (fm vs).1.length ≤ 1000) : XcI P w K mg C ps fm := by
  refine ⟨X.cls.kC, fun A h g d t os mb vs Q E hl KX nl G B bb hr hq => ?_⟩
  obtain ⟨cnm, cq, cN, cbs, cbm, csn, csub, cab, ccol, cdd', k0, k1, k2, k3, k5, hC, hbm⟩ := X.cls.cls
  have hz : (fm vs).1.length ≤ sizeLine := Nat.le_trans (hfm vs hl) (by rw [sizeLine_eq]; omega)
  refine wpAny_call (kwCall hbm (KX _ _ hC) (looks_findIn KX X.ini) (fun self => bind_fn KX self X.tyf) hz ?_)
  have kk : ∀ b o, h.get? b = some o → ((h.push (kdv_tup (fm vs).1)).push (excO C h.objs.size)).get? b = some o := fun b o z => Heap.get?_push_of_some _ (Heap.get?_push_of_some _ z)
  have hat : ((h.push (kdv_tup (fm vs).1)).push (excO C h.objs.size)).get? (h.objs.size + 1) = some (excO C h.objs.size) := by heap_get
  refine hini _ h _ _ _ mb vs _ hl KX nl G B bb (by rw [make_depth]; omega) kk hat (Heap.get?_none_of_le (Nat.le_succ _)) fun h' tk od mx => ⟨rfl, hq h' tk _ od mx⟩
end

/-! ### the rules -/
def fExc (c n : Nat) (pm : List D → List D) (fa : FA) : F := fun ρ st => (fa ρ st).bind fun ds st1 => if (pm ds).length = n then .ok (.exc c (pm ds)) st1 else .bad
section
variable {X : Cx} {g : G} {m : Mw} {W : WX} {pos p : Pos} {c n : Nat} {x : Str} {e : Expr} {es : List Expr} {fa : FA} {fm : List Value → List Value × List (Str × Value)}
/-- the class is called; what is tracked -/
theorem run_exc {pins : List (Addr × Obj)} {σ : St} {H : Hp} {s : Shared} {Q : VK} {vs : List V} {us : List Value} {ds : List D} {st : Pn} {A : Around} {E : Value → Shared → Prop} (T : XcI X.prog X.w X.K X.mg (g.ct c) (g.fn c) fm) (hA : A.depth + 5 < recursionLimit) (I : Inv X pins σ H s) (r : Vals vs us) (hP : PenAt g m H st)
    (rl : RepL g m H ds vs) (hn : ds.length = (g.fn c).length) (hq : ∀ v H', Same H H' → Rep g m H' (.exc c ds) v → Q v H') : wpAny (model X.prog X.w) A (call (.ref (g.ct c)) (fm us).1 (fm us).2) (EP X pins σ Q) E s := by
  obtain ⟨mb, h1, h2⟩ := I.mod.blt
  obtain ⟨hp, gg, d, t, os⟩ := s
  have hu : us.length = (g.fn c).length := by rw [← r.length, ← rl.length, hn]
  refine T.run A hp gg d t os mb us _ E hu I.kIn I.nolimit (I.mod.glob.keeps I.bk) (h1.keeps I.bk) h2 hA fun h' tk a od mx => ?_
  obtain ⟨H', I', sm, ha, hna, hd⟩ := Inv.madeX (t' := tk) I mx r hu
  refine ⟨.ref a, H', I', rfl, hq _ H' sm ⟨a, od, vs, rfl, hP.fresh hna, hn.symm, ha, ?_, RepL.go (Same.go sm) _ _ rl⟩⟩
  cases od with
  | some dx => exact ⟨hP.fresh hd.2, hd.1⟩
  | none =>
    have z : ds.length = 0 := by rw [hn, show g.fn c = [] from hd]; rfl
    exact List.eq_nil_of_length_eq_zero z
theorem after_exc {σ : St} {H0 H1 : Hp} {Q : VK} {ds : List D} {st : Pn} (h : After g m W σ H0 (KO g m H0 Q) (if ds.length = n then .ok (.exc c ds) st else .bad)) (g1 : Go m H0 H1) (p1 : PenAt g m H1 st) : ds.length = n ∧ ∀ v H', Same H1 H' → Rep g m H' (.exc c ds) v → Q v H' := by
  by_cases hn : ds.length = n
  · rw [if_pos hn] at h
    exact ⟨hn, fun v H' sm rv => h v H' (g1.trans (Same.go sm)) (p1.same sm) rv⟩
  · rw [if_neg hn] at h
    exact h.elim
/-- C(e, ..) -/
theorem d_exc (T : XcI X.prog X.w X.K X.mg (g.ct c) (g.fn c) fun us => (us, [])) (hr : RoomG k X.A) (hm : X.mg x = some (.ref (g.ct c))) (hn : (g.fn c).length = n) (ha : PA X (e :: es) (tDA g m W fa)) (hg : Gl X x := by rfl) (hdb : (x == ("__debug__" : Str)) = false := by decide)
    (he : starEach (e :: es) X.env = (false, eval e X.env) :: starEach es X.env := by rfl) (hpl : (backTo pos (starEach es X.env)).any (·.1) = false := by rfl) : PE X (.Call (.Name x p) (e :: es) [] pos) (tD g m W (fExc c n id fa)) := by
  refine ⟨fun pins s σ H Q I ⟨ρ, st, hE, hP, h⟩ => ?_⟩
  refine wpAny_Call_Name_kw (ld_glob I hg hm (callWith_K (h₀ := X.base) I.ok.mod.kin T.kC ?_ he hpl) hdb)
  have ht : tDA g m W fa σ H (fun vs H1 => ∃ ds st1, RepL g m H1 ds vs ∧ PenAt g m H1 st1 ∧ ds.length = n ∧ ∀ v H', Same H1 H' → Rep g m H' (.exc c ds) v → Q v H') :=
    seqA (Go.refl m H) hE hP h fun ds st1 vs H1 g1 _ p1 r1 e1 h1 => ⟨ds, st1, r1, p1, after_exc h1 g1 p1⟩
  refine thn (ha.run pos pins s σ H _ I ht) fun us s1 ⟨vs, H1, I1, r, ds, st1, rl, p1, hl, q⟩ => ⟨I1.kIn, ?_⟩
  exact run_exc T (by have := hr.r.dp; omega) I1 r p1 rl (hl.trans hn.symm) q
/-- C() -/
theorem d_exc0 (T : XcI X.prog X.w X.K X.mg (g.ct c) (g.fn c) fun us => (us, [])) (hr : RoomG k X.A) (hm : X.mg x = some (.ref (g.ct c))) (hn : (g.fn c).length = 0) (hg : Gl X x := by rfl) (hdb : (x == ("__debug__" : Str)) = false := by decide) : PE X (.Call (.Name x p) [] [] pos) (tD g m W (fExc c 0 id fNil)) := by
  refine ⟨fun pins s σ H Q I ⟨ρ, st, hE, hP, h⟩ => ?_⟩
  refine wpAny_Call_Name_kw (ld_glob I hg hm (callWith_K0 I.kIn T.kC ?_) hdb)
  have h2 : ∀ v H', Same H H' → Rep g m H' (.exc c []) v → Q v H' := fun v H' sm rv => h v H' (Same.go sm) (hP.same sm) rv
  exact run_exc (us := []) (vs := []) (ds := []) T (by have := hr.r.dp; omega) I .nil hP rfl hn.symm h2
/-- C(k = e, ..) -/
theorem d_excK {kws : List Keyword} {ks : List Str} {pm : List D → List D} {pv : List V → List V} {pu : List Value → List Value} (T : XcI X.prog X.w X.K X.mg (g.ct c) (g.fn c) fm) (hr : RoomG k X.A) (hm : X.mg x = some (.ref (g.ct c))) (hn : (g.fn c).length = n)
    (hfm : ∀ us, us.length = n → ([], ks.zip us) = fm (pu us)) (hpv : ∀ vs us, Vals vs us → Vals (pv vs) (pu us)) (hpd : ∀ m H ds vs, RepL g m H ds vs → RepL g m H (pm ds) (pv vs)) (hpl : ∀ ds, (pm ds).length = n → ds.length = n)
    (ha : PK X kws (tDA g m W fa)) (hg : Gl X x := by rfl) (hdb : (x == ("__debug__" : Str)) = false := by decide)
    (hall : (backToKw pos (keywordEach kws X.env)).all (·.1.isSome) = true := by rfl) (hks : (backToKw pos (keywordEach kws X.env)).filterMap (·.1) = ks := by rfl)
    (hpn : ((backTo pos (starEach [] X.env)).any (·.1) || (backToKw pos (keywordEach kws X.env)).any (·.1.isNone)) = false := by rfl) : PE X (.Call (.Name x p) [] kws pos) (tD g m W (fExc c n pm fa)) := by
  refine ⟨fun pins s σ H Q I ⟨ρ, st, hE, hP, h⟩ => ?_⟩
  refine wpAny_Call_Name_kw (ld_glob I hg hm ?_ hdb)
  have ht : tDA g m W fa σ H (fun vs H1 => ∃ ds st1, RepL g m H1 ds vs ∧ PenAt g m H1 st1 ∧ (pm ds).length = n ∧ ∀ v H', Same H1 H' → Rep g m H' (.exc c (pm ds)) v → Q v H') :=
    seqA (Go.refl m H) hE hP h fun ds st1 vs H1 g1 _ p1 r1 e1 h1 => ⟨ds, st1, r1, p1, after_exc h1 g1 p1⟩
  refine callWith_KW0 (h₀ := X.base) I.ok.mod.kin T.kC hall (thn (ha.run pos pins s σ H _ I ht) fun us s1 ⟨vs, H1, I1, r, ds, st1, rl, p1, hl, q⟩ => ⟨I1.kIn, ?_⟩) hpn
  rw [hks]
  have hlu : us.length = n := by rw [← r.length, ← rl.length]; exact hpl ds hl
  have ef := hfm us hlu
  have z := run_exc (fm := fm) (us := pu us) (A := X.A) (E := X.xe) T (by have := hr.r.dp; omega) I1 (hpv vs us r) p1 (hpd m H1 ds vs rl) (hl.trans hn.symm) q
  rw [← ef] at z
  exact z
/-- the values of keywords -/
theorem dk_nil : PK X [] (tDA g m W fNil) := ⟨fun pos pins s σ H Q I h => pk_nil.run pos pins s σ H Q I (let ⟨_, _, _, hP, q⟩ := h; q [] H (Go.refl m H) hP rfl)⟩
theorem dk_cons {f : F} {nm : Option Str} {kpos : Pos} {kws : List Keyword} (ha : PE X e (tD g m W f)) (hr : PK X kws (tDA g m W fa)) : PK X (⟨nm, e, kpos⟩ :: kws) (tDA g m W (fCons f fa)) :=
  ⟨fun pos pins s σ H Q I ⟨ρ, st, hE, hP, h⟩ => (pk_cons ha hr).run pos pins s σ H Q I (seqD (Go.refl m H) hE hP h fun d st1 v H1 g1 _ p1 r1 e1 h1 =>
    seqA g1 e1 p1 h1 fun ds st2 vs H2 g2 k2 p2 r2 e2 h2 => h2 (v :: vs) H2 g2 p2 (RepL.cons (Rep.go k2 _ _ r1) r2))⟩
end
end DL

set_option Elab.async false
set_option linter.all false
set_option maxRecDepth 100000
set_option maxHeartbeats 4000000
namespace DL
open PySem L2 PySem.W

/-! ### attributes -/
theorem zip_lookup {f : Str} {v : V} : ∀ {fs : List Str} {vs : List V} {i : Nat}, fs.Nodup → fs[i]? = some f → vs[i]? = some v → (fs.zip vs).lookup f = some v
  | [], _, _, _, h, _ => by simp at h
  | _ :: _, [], _, _, _, h => by simp at h
  | a :: fs, b :: vs, 0, _, h1, h2 => by
    simp at h1 h2
    subst h1 h2
    simp [List.lookup]
  | a :: fs, b :: vs, i + 1, nd, h1, h2 => by
    have ih := zip_lookup (i := i) (List.nodup_cons.mp nd).2 (by simpa using h1) (by simpa using h2)
    have hm : f ∈ fs := List.mem_of_getElem? (by simpa using h1)
    have ne : (f == a) = false := by
      simp only [beq_eq_false_iff_ne]
      rintro rfl
      exact (List.nodup_cons.mp nd).1 hm
    simp [List.lookup, ne, ih]
/-- e.f: the fields' places by the class's number -/
def fAttr (ao ax : Nat → Option Nat) (f : F) : F := fun ρ st => (f ρ st).bind fun d st1 => match d with
  | .obj c l => (match ao c with | some i => (match l[i]? with | some d => .ok d st1 | none => .bad) | none => .bad)
  | .exc c l => (match ax c with | some i => (match l[i]? with | some d => .ok d st1 | none => .bad) | none => .bad)
  | _ => .bad
structure AtO (K : Frag) (g : G) (f : Str) (c i : Nat) : Prop where
  cl : Cls K (g.ct c)
  no : NoAttr K (g.ct c) f
  ix : (g.fn c)[i]? = some f
  nd : (g.fn c).Nodup
structure AtX (K : Frag) (g : G) (f : Str) (c i : Nat) : Prop where
  cl : XfC K (g.ct c)
  no : findIn K (.ref (g.ct c)) f = some none
  ix : (g.fn c)[i]? = some f
  nd : (g.fn c).Nodup
section
variable {X : Cx} {g : G} {m : Mw} {W : WX} {pos : Pos} {e : Expr} {f : Str} {fe : F} {ao ax : Nat → Option Nat}
theorem d_attr (ho : ∀ c i, ao c = some i → AtO X.K g f c i) (hx : ∀ c i, ax c = some i → AtX X.K g f c i) (he : PE X e (tD g m W fe)) (hb : attributeBase e f X.env (eval e X.env) = eval e X.env := by rfl) : PE X (.Attribute e f pos) (tD g m W (fAttr ao ax fe)) := by
  refine ⟨fun pins s σ H Q I ⟨ρ, st, hE, hP, h⟩ => ?_⟩
  have ht : tD g m W fe σ H (fun x H1 => ∃ d v, Rep g m H1 d x ∧ Q v H1 ∧ ((∃ c l i, d = .obj c l ∧ ao c = some i ∧ ∃ d2, l[i]? = some d2 ∧ Rep g m H1 d2 v) ∨ ∃ c l i, d = .exc c l ∧ ax c = some i ∧ ∃ d2, l[i]? = some d2 ∧ Rep g m H1 d2 v) ∧
      ∀ u, (∀ d2, (∃ c l i, d = .obj c l ∧ ao c = some i ∧ l[i]? = some d2) ∨ (∃ c l i, d = .exc c l ∧ ax c = some i ∧ l[i]? = some d2) → Rep g m H1 d2 u) → Q u H1) :=
    seqD (Go.refl m H) hE hP h fun d st1 x H1 g1 _ p1 r1 e1 h1 => by
      cases d with
      | obj c l =>
        dsimp only at h1
        cases ea : ao c with
        | none => rw [ea] at h1; exact h1.elim
        | some i =>
          rw [ea] at h1
          dsimp only at h1
          cases el : l[i]? with
          | none => rw [el] at h1; exact h1.elim
          | some d2 =>
            rw [el] at h1
            obtain ⟨a, dx, vs, ex, n, hl, hs, hr⟩ := id r1
            obtain ⟨v, h2, h3⟩ := hr.get el
            exact ⟨_, v, r1, h1 v H1 g1 p1 h3, .inl ⟨c, l, i, rfl, ea, d2, el, h3⟩, fun u hu => h1 u H1 g1 p1 (hu d2 (.inl ⟨c, l, i, rfl, ea, el⟩))⟩
      | exc c l =>
        dsimp only at h1
        cases ea : ax c with
        | none => rw [ea] at h1; exact h1.elim
        | some i =>
          rw [ea] at h1
          dsimp only at h1
          cases el : l[i]? with
          | none => rw [el] at h1; exact h1.elim
          | some d2 =>
            rw [el] at h1
            obtain ⟨a, od, vs, ex, n, hl, hs, hd, hr⟩ := id r1
            obtain ⟨v, h2, h3⟩ := hr.get el
            exact ⟨_, v, r1, h1 v H1 g1 p1 h3, .inr ⟨c, l, i, rfl, ea, d2, el, h3⟩, fun u hu => h1 u H1 g1 p1 (hu d2 (.inr ⟨c, l, i, rfl, ea, el⟩))⟩
      | _ => exact h1.elim
  refine attr_of hb (thn (he.run pins s σ H _ I ht) fun u s1 ⟨x, H1, I1, rx, d, v0, rd, _, hor, hq⟩ => ?_)
  rcases hor with ⟨c, l, i, ed, ea, d2, el, _⟩ | ⟨c, l, i, ed, ea, d2, el, _⟩
  · subst ed
    obtain ⟨a, dx, vs, ex, n, hl, hs, hr⟩ := rd
    subst ex
    obtain rfl : u = Value.ref a := rx
    obtain ⟨v, h2, h3⟩ := hr.get el
    have T := ho c i ea
    refine getattr_ok I1 hs T.cl T.no (zip_lookup T.nd T.ix h2) fun u' s2 I2 ru => ⟨v, H1, I2, ru, hq v fun d3 hd3 => ?_⟩
    rcases hd3 with ⟨c', l', i', q1, q2, q3⟩ | ⟨c', l', i', q1, q2, q3⟩
    · cases q1
      rw [ea] at q2
      cases q2
      rw [el] at q3
      cases q3
      exact h3
    · cases q1
  · subst ed
    obtain ⟨a, od, vs, ex, n, hl, hs, hd, hr⟩ := rd
    subst ex
    obtain rfl : u = Value.ref a := rx
    obtain ⟨v, h2, h3⟩ := hr.get el
    have T := hx c i ea
    cases od with
    | none =>
      have z : l = [] := hd
      subst z
      simp at el
    | some dx =>
      obtain ⟨⟨oe, ws, ha, hc, hdc, hdt, _⟩, _, _⟩ := I1.hok a _ hs
      obtain ⟨mA, hns, hrl⟩ := I1.hok dx _ hd.2
      obtain ⟨od, hod, hlk⟩ := lookIn_ns hns
      obtain ⟨u2, hu, ru⟩ := RelO.some_of (v := v) (o := mA f) (by rw [← zip_lookup T.nd T.ix h2]; exact hrl f)
      have J : InstAt s1.heap a oe (g.ct c) (some od) := ⟨ha, hc, by unfold notCls; rw [hdt] <;> rfl, by rw [hdc]; exact hod⟩
      refine HandSPX.exc_get I1.kIn J T.cl.ga T.cl.gg T.cl.exC (findObj_own T.cl.hdC T.no rfl (by rw [hlk, hu])) (handed_of ru) ⟨v, H1, I1.tok _, ru, hq v fun d3 hd3 => ?_⟩
      rcases hd3 with ⟨c', l', i', q1, q2, q3⟩ | ⟨c', l', i', q1, q2, q3⟩
      · cases q1
      · cases q1
        rw [ea] at q2
        cases q2
        rw [el] at q3
        cases q3
        exact h3
end
end DL

set_option Elab.async false
set_option linter.all false
set_option maxRecDepth 100000
set_option maxHeartbeats 4000000
namespace DL
open PySem L2 PySem.W

/-! ### data as the library's own data -/
def keyPy : Key → PyData
  | .inl i => .int i
  | .inr x => .str x
mutual
def toPy : D → Option PyData
  | .non => some .none
  | .bl b => some (.bool b)
  | .int i => some (.int i)
  | .str x => some (.str x)
  | .lst l => (toPyL l).map .list
  | .tup l => (toPyL l).map .tuple
  | .dct ks l => (toPyL l).map fun ps => .dict ((ks.map keyPy).zip ps)
  | _ => none
def toPyL : List D → Option (List PyData)
  | [] => some []
  | d :: ds => match toPy d, toPyL ds with
    | some p, some ps => some (p :: ps)
    | _, _ => none
end
theorem toPyL_len : ∀ {ds : List D} {ps : List PyData}, toPyL ds = some ps → ds.length = ps.length
  | [], _, h => by cases h; rfl
  | d :: ds, ps, h => by
    unfold toPyL at h
    split at h
    · rename_i p qs h1 h2
      cases h
      simp [toPyL_len h2]
    · cases h
theorem toPyL_cons {d : D} {ds : List D} {ps : List PyData} (h : toPyL (d :: ds) = some ps) : ∃ p qs, ps = p :: qs ∧ toPy d = some p ∧ toPyL ds = some qs := by
  unfold toPyL at h
  split at h
  · rename_i p qs h1 h2
    cases h
    exact ⟨p, qs, rfl, h1, h2⟩
  · cases h
mutual
/-- no dict within -/
def plainD : D → Bool
  | .lst l => plainL l
  | .tup l => plainL l
  | .dct _ _ => false
  | _ => true
def plainL : List D → Bool
  | [] => true
  | d :: ds => plainD d && plainL ds
end
section
variable {g : G} {m : Mw} {H : Hp} {K : Frag}
mutual
theorem rep_dp : ∀ (d : D) (v : V) (p : PyData), plainD d = true → toPy d = some p → Rep g m H d v → Dp K H v p
  | .non, v, p, _, e, r => by cases e; cases r; exact .non
  | .bl b, v, p, _, e, r => by cases e; cases r; exact .bl b
  | .int i, v, p, _, e, r => by cases e; cases r; exact .int i
  | .str x, v, p, _, e, r => by cases e; cases r; exact .str x
  | .lst l, v, p, hp, e, ⟨a, vs, hv, n, hs, hr⟩ => by
    obtain ⟨ps, h1, h2⟩ := Option.map_eq_some_iff.mp e
    subst h2 hv
    exact .lst (SqL.of hs) (rep_dpL l vs ps hp h1 hr)
  | .tup l, v, p, hp, e, ⟨a, vs, hv, n, hs, hr⟩ => by
    obtain ⟨ps, h1, h2⟩ := Option.map_eq_some_iff.mp e
    subst h2 hv
    exact .tup (SqT.of hs) (rep_dpL l vs ps hp h1 hr)
  | .dct _ _, _, _, hp, _, _ => by cases hp
  | .obj _ _, _, _, _, e, _ => by cases e
  | .exc _ _, _, _, _, e, _ => by cases e
  | .cls _, _, _, _, e, _ => by cases e
  | .ty _, _, _, _, e, _ => by cases e
  | .pen, _, _, _, e, _ => by cases e
theorem rep_dpL : ∀ (ds : List D) (vs : List V) (ps : List PyData), plainL ds = true → toPyL ds = some ps → RepL g m H ds vs → DpAll K H vs ps
  | [], _, _, _, e, r => by cases e; cases r; exact .nil
  | d :: ds, _, ps, hp, e, ⟨x, xs, hv, h1, h2⟩ => by
    obtain ⟨p, qs, rfl, e1, e2⟩ := toPyL_cons e
    subst hv
    obtain ⟨p1, p2⟩ := Bool.and_eq_true_iff.mp hp
    exact .cons (rep_dp d x p p1 e1 h1) (rep_dpL ds xs qs p2 e2 h2)
end
end
/-- Python's == of two data without dicts -/
def eqD (a b : D) : Option Bool := if plainD a && plainD b then (match toPy a, toPy b with
  | some p, some q => if SeqAt.shaped p && SeqAt.shaped q then some (PyData.eqv p q) else none
  | _, _ => none) else none
def oEq (a b : D) : RD := match eqD a b with | some k => .ok (.bl k) | none => .bad
def oNe (a b : D) : RD := match eqD a b with | some k => .ok (.bl (!k)) | none => .bad
theorem eqD_some {a b : D} {k : Bool} (h : eqD a b = some k) : ∃ p q, plainD a = true ∧ plainD b = true ∧ toPy a = some p ∧ toPy b = some q ∧ SeqAt.shaped p = true ∧ SeqAt.shaped q = true ∧ k = PyData.eqv p q := by
  unfold eqD at h
  split at h
  · rename_i hp
    obtain ⟨h1, h2⟩ := Bool.and_eq_true_iff.mp hp
    split at h
    · rename_i p q e1 e2
      split at h
      · rename_i hs
        obtain ⟨s1, s2⟩ := Bool.and_eq_true_iff.mp hs
        cases h
        exact ⟨p, q, h1, h2, e1, e2, s1, s2, rfl⟩
      · cases h
    · cases h
  · cases h
section
variable {X : Cx} {g : G}
theorem opd_eq {k : Nat} (hr : RoomG k X.A) : OpD X g (compareOp .Eq) oEq := by
  refine ⟨_, op_eqD hr.r.units, fun m H a b d x y Q _ e ra rb q => ?_⟩
  unfold oEq at e
  split at e
  · rename_i k ek
    cases e
    obtain ⟨p, q', p1, p2, e1, e2, s1, s2, rfl⟩ := eqD_some ek
    exact ⟨p, q', rep_dp a x p p1 e1 ra, rep_dp b y q' p2 e2 rb, s1, s2, q _ H (Same.refl H) rfl⟩
  · cases e
theorem opd_ne {k : Nat} (hr : RoomG k X.A) : OpD X g (compareOp .NotEq) oNe := by
  refine ⟨_, op_neD hr.r.units, fun m H a b d x y Q _ e ra rb q => ?_⟩
  unfold oNe at e
  split at e
  · rename_i k ek
    cases e
    obtain ⟨p, q', p1, p2, e1, e2, s1, s2, rfl⟩ := eqD_some ek
    exact ⟨p, q', rep_dp a x p p1 e1 ra, rep_dp b y q' p2 e2 rb, s1, s2, q _ H (Same.refl H) rfl⟩
  · cases e
end
end DL

set_option Elab.async false
set_option linter.all false
set_option maxRecDepth 100000
set_option maxHeartbeats 4000000
namespace DL
open PySem L2 PySem.W

/-! ### repr -/
section
variable {X : Cx} {pins : List (Addr × Obj)} {σ : St} {H : Hp} {s : Shared} {g : G} {m : Mw}
theorem pairs_reads {h : Heap} {es : List DictEntry} {kvs : List (Key × Value)} (ps : Pairs (mixKind X.prog X.w) es kvs) : ∀ (ks : List Key) (vs : List V), KV (ks.zip vs) kvs → ks.length = vs.length → ReadsAll h (es.map (·.key)) (ks.map keyPy) [] ∧ Vals vs (es.map (·.val)) := by
  induction ps with
  | nil =>
    intro ks vs r z
    cases ks with
    | nil =>
      cases vs with
      | nil => exact ⟨.nil, .nil⟩
      | cons => simp at z
    | cons =>
      cases vs with
      | nil => simp at z
      | cons => cases r
  | @cons e kv es kvs hk hv ps ih =>
    intro ks vs r z
    cases ks with
    | nil => cases r
    | cons k ks =>
      cases vs with
      | nil => cases r
      | cons v vs =>
        cases r with
        | cons r1 rs =>
          obtain ⟨h1, h3⟩ := ih ks vs rs (by simpa using z)
          obtain ⟨e1, r2⟩ := r1
          have hk' : keyIs kv.1 e.key = true := hk
          have e1 : k = kv.1 := e1
          rw [← e1] at hk'
          have hv' : RelV v e.val := by rw [hv]; exact r2
          refine ⟨?_, .cons hv' h3⟩
          have hr : Reads h e.key (keyPy k) [] := by
            rcases keyIs_shape hk' with ⟨i, t, q1, q2⟩ | ⟨x, t, q1, q2⟩
            · rw [q1, q2]
              exact .int i t
            · rw [q1, q2]
              exact .str x t
          exact ReadsAll.cons hr h1
mutual
theorem plain_noDict : ∀ (d : D) (p : PyData), plainD d = true → toPy d = some p → p.hasDict = false
  | .non, _, _, e => by cases e; rfl
  | .bl _, _, _, e => by cases e; rfl
  | .int _, _, _, e => by cases e; rfl
  | .str _, _, _, e => by cases e; rfl
  | .lst l, p, hp, e => by
    obtain ⟨ps, e1, e2⟩ := Option.map_eq_some_iff.mp e
    subst e2
    exact plain_noDictL l ps hp e1
  | .tup l, p, hp, e => by
    obtain ⟨ps, e1, e2⟩ := Option.map_eq_some_iff.mp e
    subst e2
    exact plain_noDictL l ps hp e1
  | .dct _ _, _, hp, _ => by cases hp
  | .obj _ _, _, _, e => by cases e
  | .exc _ _, _, _, e => by cases e
  | .cls _, _, _, e => by cases e
  | .ty _, _, _, e => by cases e
  | .pen, _, _, e => by cases e
theorem plain_noDictL : ∀ (ds : List D) (ps : List PyData), plainL ds = true → toPyL ds = some ps → PyData.hasDictAll ps = false
  | [], _, _, e => by cases e; rfl
  | d :: ds, ps, hp, e => by
    obtain ⟨p, qs, rfl, e1, e2⟩ := toPyL_cons e
    obtain ⟨p1, p2⟩ := Bool.and_eq_true_iff.mp hp
    simp only [PyData.hasDictAll, plain_noDict d p p1 e1, plain_noDictL ds qs p2 e2, Bool.or_self]
end
mutual
theorem plain_reads (I : Inv X pins σ H s) : ∀ (d : D) (v : V) (u : Value) (p : PyData), plainD d = true → toPy d = some p → Rep g m H d v → RelV v u → ∃ as, Reads s.heap u p as
  | .non, v, u, p, _, e, r, ru => by cases e; cases r; cases (show u = Value.none from ru); exact ⟨[], .none⟩
  | .bl b, v, u, p, _, e, r, ru => by cases e; cases r; cases (show u = Value.bool b from ru); exact ⟨[], .bool b⟩
  | .int i, v, u, p, _, e, r, ru => by cases e; cases r; obtain ⟨t, rfl⟩ := (show ∃ t, u = Value.int i t from ru); exact ⟨[], .int i t⟩
  | .str x, v, u, p, _, e, r, ru => by cases e; cases r; obtain ⟨t, rfl⟩ := (show ∃ t, u = Value.str x t from ru); exact ⟨[], .str x t⟩
  | .lst l, v, u, p, hp, e, ⟨a, vs, hv, n, hs, hr⟩, ru => by
    obtain ⟨ps, e1, e2⟩ := Option.map_eq_some_iff.mp e
    subst e2 hv
    cases (show u = Value.ref a from ru)
    obtain ⟨_, its, n, rv, ho⟩ := (show ObjOk X.prog X.w H s.heap a (.lst vs) from I.hok a _ hs)
    obtain ⟨as, q1⟩ := plain_readsL I l vs its ps hp e1 hr rv
    exact ⟨a :: as, .list ho rfl rfl (by simpa using q1)⟩
  | .tup l, v, u, p, hp, e, ⟨a, vs, hv, n, hs, hr⟩, ru => by
    obtain ⟨ps, e1, e2⟩ := Option.map_eq_some_iff.mp e
    subst e2 hv
    cases (show u = Value.ref a from ru)
    obtain ⟨_, its, rv, o, ho, hc, nn, hd⟩ := (show ObjOk X.prog X.w H s.heap a (.tup vs) from I.hok a _ hs)
    obtain ⟨as, q1⟩ := plain_readsL I l vs its ps hp e1 hr rv
    exact ⟨as, .tuple ho hc hd (by simpa using q1)⟩
  | .dct _ _, _, _, _, hp, _, _, _ => by cases hp
  | .obj _ _, _, _, _, _, e, _, _ => by cases e
  | .exc _ _, _, _, _, _, e, _, _ => by cases e
  | .cls _, _, _, _, _, e, _, _ => by cases e
  | .ty _, _, _, _, _, e, _, _ => by cases e
  | .pen, _, _, _, _, e, _, _ => by cases e
theorem plain_readsL (I : Inv X pins σ H s) : ∀ (ds : List D) (vs : List V) (us : List Value) (ps : List PyData), plainL ds = true → toPyL ds = some ps → RepL g m H ds vs → Vals vs us → ∃ as, ReadsAll s.heap us ps as
  | [], _, _, _, _, e, r, ru => by cases e; cases r; cases ru; exact ⟨[], .nil⟩
  | d :: ds, _, _, ps, hp, e, ⟨x, xs, hv, r1, r2⟩, ru => by
    obtain ⟨p, qs, rfl, e1, e2⟩ := toPyL_cons e
    obtain ⟨p1, p2⟩ := Bool.and_eq_true_iff.mp hp
    subst hv
    cases ru with
    | cons ra rb =>
      obtain ⟨as, a1⟩ := plain_reads I d x _ p p1 e1 r1 ra
      obtain ⟨bs, b1⟩ := plain_readsL I ds xs _ qs p2 e2 r2 rb
      exact ⟨as ++ bs, .cons a1 b1⟩
end
/-- None, bools, numbers, texts -/
def scalD : D → Bool
  | .non => true | .bl _ => true | .int _ => true | .str _ => true | _ => false
theorem scal_reads : ∀ (ds : List D) (vs : List V) (us : List Value) (ps : List PyData), ds.all scalD = true → toPyL ds = some ps → RepL g m H ds vs → Vals vs us → ReadsAll s.heap us ps []
  | [], _, _, _, _, e, r, ru => by cases e; cases r; cases ru; exact .nil
  | d :: ds, _, _, ps, hp, e, ⟨x, xs, hv, r1, r2⟩, ru => by
    obtain ⟨p, qs, rfl, e1, e2⟩ := toPyL_cons e
    obtain ⟨p1, p2⟩ := Bool.and_eq_true_iff.mp (by simpa using hp : (scalD d && ds.all scalD) = true)
    subst hv
    cases ru with
    | @cons _ u _ us ra rb =>
      have h2 := scal_reads ds xs _ qs p2 e2 r2 rb
      have h1 : Reads s.heap u p [] := by
        cases d with
        | non => cases e1; cases r1; cases (show u = Value.none from ra); exact .none
        | bl b => cases e1; cases r1; cases (show u = Value.bool b from ra); exact .bool b
        | int i => cases e1; cases r1; obtain ⟨t, rfl⟩ := (show ∃ t, u = Value.int i t from ra); exact .int i t
        | str z => cases e1; cases r1; obtain ⟨t, rfl⟩ := (show ∃ t, u = Value.str z t from ra); exact .str z t
        | _ => cases p1
      exact ReadsAll.cons h1 h2
/-- data without dicts, or a dict of scalars -/
def shal : D → Bool
  | .dct _ l => l.all scalD
  | d => plainD d
theorem shal_reads (I : Inv X pins σ H s) (d : D) (v : V) (u : Value) (p : PyData) (hp : shal d = true) (e : toPy d = some p) (r : Rep g m H d v) (ru : RelV v u) : ∃ as, Reads s.heap u p as ∧ (p.hasDict = true → sysModules ∉ as) := by
  by_cases hd : plainD d = true
  · obtain ⟨as, q⟩ := plain_reads I d v u p hd e r ru
    exact ⟨as, q, fun z => by rw [plain_noDict d p hd e] at z; cases z⟩
  · cases d with
    | dct ks l =>
      obtain ⟨ps, e1, e2⟩ := Option.map_eq_some_iff.mp e
      obtain ⟨a, vs, hv, n, hk, hs, hr⟩ := r
      subst e2 hv
      cases (show u = Value.ref a from ru)
      obtain ⟨_, nsys, kvs, rk, o, es, ep, ho, hx, hd, _, hpp, _⟩ := (show ObjOk X.prog X.w H s.heap a (.dK (ks.zip vs)) from I.hok a _ hs)
      have hlen : ks.length = vs.length := by rw [hk, hr.length]
      obtain ⟨k1, k3⟩ := pairs_reads (h := s.heap) hpp ks vs rk hlen
      have q1 := scal_reads (s := s) l vs _ ps hp e1 hr k3
      have hl2 : (ks.map keyPy).length = ps.length := by rw [List.length_map, hk, toPyL_len e1]
      refine ⟨a :: [] ++ [], .dict ho hx.1 hd (by rw [List.map_fst_zip (by omega)]; exact k1) (by rw [List.map_snd_zip (by omega)]; exact q1), fun _ => ?_⟩
      have z : a ≠ sysModules := by simpa using nsys
      simpa using z.symm
    | lst l => exact absurd hp hd
    | tup l => exact absurd hp hd
    | non => exact absurd rfl hd
    | bl b => exact absurd rfl hd
    | int i => exact absurd rfl hd
    | str x => exact absurd rfl hd
    | obj c l => exact absurd rfl hd
    | exc c l => exact absurd rfl hd
    | cls c => exact absurd rfl hd
    | ty n => exact absurd rfl hd
    | pen => exact absurd rfl hd
theorem items_repr (I : Inv X pins σ H s) : ∀ (ds : List D) (vs : List V) (us : List Value) (ps : List PyData), ds.all shal = true → toPyL ds = some ps → PyData.showableAll ps = true → (∀ t ∈ PyData.shownAll ps, t.length ≤ sizeLine) → RepL g m H ds vs → Vals vs us →
    (∃ as, ReadsAll s.heap us ps as) ∧ ∃ bs, ReadAtMost s.heap (PyData.depthAll ps) bs ∧ ReprAllK X.prog X.w bs s.heap (PyData.depthAll ps) us (PyData.shownAll ps)
  | [], _, _, _, _, e, _, _, r, ru => by cases e; cases r; cases ru; exact ⟨⟨[], .nil⟩, [], (fun _ z => nomatch z), by simp only [PyData.shownAll]; exact .nil⟩
  | d :: ds, _, _, ps, hp, e, hs, hz, ⟨x, xs, hv, r1, r2⟩, ru => by
    obtain ⟨p, qs, rfl, e1, e2⟩ := toPyL_cons e
    obtain ⟨p1, p2⟩ := Bool.and_eq_true_iff.mp (by simpa using hp : (shal d && ds.all shal) = true)
    have hs' : p.showable = true ∧ PyData.showableAll qs = true := by simpa [PyData.showableAll] using hs
    subst hv
    cases ru with
    | cons ra rb =>
      obtain ⟨as, a1, a2⟩ := shal_reads I d x _ p p1 e1 r1 ra
      obtain ⟨⟨bs, b1⟩, cs, hc, kc⟩ := items_repr I ds xs _ qs p2 e2 hs'.2 (fun t ht => hz t (by simp only [PyData.shownAll]; exact List.mem_cons_of_mem _ ht)) r2 rb
      obtain ⟨es, he, ke⟩ := ReprK.of_reads (prog := X.prog) (w := X.w) a1 hs'.1 a2 (hz _ (by simp only [PyData.shownAll]; exact List.mem_cons_self ..))
      refine ⟨⟨_, .cons a1 b1⟩, es ++ cs, (he.mono (Nat.le_max_left _ _)).append (hc.mono (Nat.le_max_right _ _)), ?_⟩
      simp only [PyData.depthAll, PyData.shownAll]
      exact .cons ((ke.more fun b hb => List.mem_append_left _ hb).level_le (Nat.le_max_left _ _)) (kc.more_le (fun b hb => List.mem_append_right _ hb) (Nat.le_max_right _ _))
end
/-- repr of such data, and of lists and tuples of such -/
def shal2 : D → Bool
  | .lst l => l.all shal
  | .tup l => l.all shal
  | d => shal d
def reprD (d : D) : Option Str := match toPy d with
  | some p => if shal2 d && p.showable && decide (p.depth ≤ 50) && decide (p.shown.length ≤ 100000) then some p.shown else none
  | none => none
def cRepr : List D → RD
  | [d] => (match reprD d with | some x => .ok (.str x) | none => .bad)
  | _ => .bad
def rRepr (g : G) : List V → Hp → VK → Prop := fun xs H Q => ∃ m d x p, xs = [x] ∧ Rep g m H d x ∧ toPy d = some p ∧ shal2 d = true ∧ p.showable = true ∧ p.depth ≤ 50 ∧ p.shown.length ≤ 100000 ∧ Q (.str p.shown) H
section
variable {X : Cx} {g : G}
theorem callr_repr {k : Nat} (hr : RoomG k X.A) : CallR X (.builtin "repr") (rRepr g) := by
  intro pins s σ H xs us Q I r ⟨m, d, x, p, ex, rd, ep, hdm, hsh, hdp, hln, q⟩
  subst ex
  obtain ⟨u, rfl, ru⟩ := vals1 r
  have hu := hr.r.units
  have fin : ∀ h' tk t, (∀ b o, s.heap.get? b = some o → h'.get? b = some o) → EP X pins σ Q (.str p.shown t) { s with heap := h', toks := tk } := fun h' tk t kk => ⟨.str p.shown, H, I.kept (t' := tk) kk, ⟨t, rfl⟩, q⟩
  have flat : shal d = true → wpAny (model X.prog X.w) X.A (call (.builtin "repr") [u]) (EP X pins σ Q) X.xe s := fun hd => by
    obtain ⟨as, rr, nas⟩ := shal_reads I d x u p hd ep rd ru
    cases u with
    | ref a => exact repr_of_reads' rr hsh nas hr.gd (by omega) (fun _ _ e => e) (fun h' u tk kk => fin h' tk u kk) (line_of hln)
    | none => cases rr; exact PySem.P.repr_of_none (fin s.heap _ _ fun _ _ z => z)
    | bool b => cases rr; exact PySem.P.repr_of_bool (fin s.heap _ _ fun _ _ z => z)
    | int i t => cases rr; exact PySem.P.repr_of_int (of_decide_eq_true hsh) (fin s.heap _ _ fun _ _ z => z)
    | str y t => cases rr; exact PySem.P.repr_of_str (fin s.heap _ _ fun _ _ z => z) (line_of hln)
    | _ => cases rr
  cases d with
  | lst l =>
    obtain ⟨ps, e1, e2⟩ := Option.map_eq_some_iff.mp ep
    subst e2
    obtain ⟨a, vs, hv, n, hs, hrl⟩ := rd
    subst hv
    cases (show u = Value.ref a from ru)
    obtain ⟨_, its, nn, rv, ho⟩ := (show ObjOk X.prog X.w H s.heap a (.lst vs) from I.hok a _ hs)
    have hz : (listText (PyData.shownAll ps)).length ≤ sizeLine := by
      have z := line_of hln
      simpa only [PyData.shown] using z
    obtain ⟨⟨as, ra⟩, bs, hb, hk⟩ := items_repr I l vs its ps hdm e1 (by simpa [PyData.showable] using hsh) (fun t ht => Nat.le_trans (listText_mem_le ht) hz) hrl rv
    have rr : Reads s.heap (.ref a) (.list ps) (a :: as) := .list ho rfl rfl (by simpa using ra)
    have hna : a ∉ bs := not_mem_of_deeper rr (by simp only [PyData.depth]; omega) hb
    have hdp' : PyData.depthAll ps + 1 ≤ 50 := by simpa only [PyData.depth] using hdp
    refine call_repr_slot (T := "list") (by omega) ⟨_, ho, rfl⟩ F.slot_list_repr.toG ?_
    cases its with
    | nil =>
      cases ra
      refine call_list_repr_empty ⟨_, ho, rfl⟩ ho rfl ⟨_, _, rfl, ?_⟩
      exact fin s.heap _ _ fun _ _ z => z
    | cons x0 l0 =>
      refine call_list_reprK ho rfl rfl hna (by simpa using hk.length_eq) (fun i y e => hk.item i y (by simpa using e)) hr.gd (fun b _ => Clear.nil b) (by show X.A.units + 1 + _ < cLine; omega) (fun _ _ e => e) (fun h' u tk kk => ⟨_, _, rfl, ?_⟩) hz
      have z := fin h' tk u kk
      simpa only [PyData.shown] using z
  | tup l =>
    obtain ⟨ps, e1, e2⟩ := Option.map_eq_some_iff.mp ep
    subst e2
    obtain ⟨a, vs, hv, n, hs, hrl⟩ := rd
    subst hv
    cases (show u = Value.ref a from ru)
    obtain ⟨_, its, rv, o, ho, hc, nn, hd⟩ := (show ObjOk X.prog X.w H s.heap a (.tup vs) from I.hok a _ hs)
    have hz : (tupleText (PyData.shownAll ps)).length ≤ sizeLine := by
      have z := line_of hln
      simpa only [PyData.shown] using z
    obtain ⟨⟨as, ra⟩, bs, hb, hk⟩ := items_repr I l vs its ps hdm e1 (by simpa [PyData.showable] using hsh) (fun t ht => Nat.le_trans (tupleText_mem_le ht) hz) hrl rv
    have rr : Reads s.heap (.ref a) (.tuple ps) as := .tuple ho hc hd (by simpa using ra)
    have hna : a ∉ bs := not_mem_of_deeper rr (by simp only [PyData.depth]; omega) hb
    have hdp' : PyData.depthAll ps + 1 ≤ 50 := by simpa only [PyData.depth] using hdp
    refine call_repr_slot (T := "tuple") (by omega) ⟨_, ho, hc⟩ F.slot_tuple_repr ?_
    refine call_tuple_reprK ho hc hd hna (by simpa using hk) hr.gd (fun b _ => Clear.nil b) (by show X.A.units + 1 + _ < cLine; omega) (fun _ _ e => e) (fun h' u tk kk => ⟨_, _, rfl, ?_⟩) hz
    have z := fin h' tk u kk
    simpa only [PyData.shown] using z
  | _ => exact flat hdm
theorem calld_repr {k : Nat} (hr : RoomG k X.A) : CallD X g (.builtin "repr") cRepr := by
  refine ⟨_, callr_repr (g := g) hr, fun m H a d x Q _ e ra q => ?_⟩
  unfold cRepr at e
  split at e
  · rename_i d0
    split at e
    · rename_i z ez
      cases e
      unfold reprD at ez
      split at ez
      · rename_i p ep
        split at ez
        · rename_i hc
          cases ez
          obtain ⟨h12, h3⟩ := Bool.and_eq_true_iff.mp hc
          obtain ⟨h11, h2⟩ := Bool.and_eq_true_iff.mp h12
          obtain ⟨h0, h1'⟩ := Bool.and_eq_true_iff.mp h11
          obtain ⟨v, _, rfl, rv, z⟩ := ra
          cases z
          exact ⟨m, d0, v, p, rfl, rv, ep, h0, h1', of_decide_eq_true h2, of_decide_eq_true h3, q _ H (Same.refl H) rfl⟩
        · cases ez
      · cases ez
    · cases e
  · cases e
end
end DL

set_option Elab.async false
set_option linter.all false
set_option maxRecDepth 100000
set_option maxHeartbeats 4000000
namespace DL
open PySem L2 PySem.W

/-! ### operators on numbers, lists, texts -/
/-- a number below so many bits -/
def small (n : Nat) (i : Int) : Bool := decide (i.natAbs < 2 ^ n)
def oAdd : D → D → RD
  | .int i, .int j => .ok (.int (i + j))
  | .str x, .str y => if x.length + y.length ≤ 100000 then .ok (.str (x ++ y)) else .bad
  | .lst a, .lst b => if a.length + b.length ≤ 100000 then .ok (.lst (a ++ b)) else .bad
  | _, _ => .bad
def oSub : D → D → RD
  | .int i, .int j => .ok (.int (i - j))
  | _, _ => .bad
/-- * of numbers (one of them below 2^64), of a list and a number -/
def oMul : D → D → RD
  | .int i, .int j => if (i.natAbs < 2 ^ 64) ∨ (j.natAbs < 2 ^ 64) then .ok (.int (i * j)) else .bad
  | .lst a, .int j => if j.natAbs ≤ 100000 ∧ a.length * j.toNat ≤ 100000 then .ok (.lst (List.replicate j.toNat a).flatten) else .bad
  | _, _ => .bad
def oDiv : D → D → RD
  | .int i, .int j => if 0 < j ∧ j < 2 ^ 200 then .ok (.int (i / j)) else .bad
  | _, _ => .bad
def oMod : D → D → RD
  | .int i, .int j => if 0 < j then .ok (.int (i % j)) else .bad
  | _, _ => .bad
def oPow : D → D → RD
  | .int i, .int j => if 0 ≤ j ∧ j ≤ 1000 ∧ i.natAbs < 2 ^ 64 then .ok (.int (i ^ j.toNat)) else .bad
  | _, _ => .bad
def oCmp (p : Int → Int → Bool) : D → D → RD
  | .int i, .int j => .ok (.bl (p i j))
  | _, _ => .bad
section
variable {X : Cx} {g : G}
theorem opd_add : OpD X g (binaryOp .Add) oAdd := by
  refine ⟨_, (op_add.or (op_add_str.or op_cat)), fun m H a b d x y Q hx e ra rb q => ?_⟩
  unfold oAdd at e
  split at e
  · cases e
    cases ra
    cases rb
    exact .inl ⟨_, _, rfl, rfl, q _ H (Same.refl H) rfl⟩
  · split at e
    · rename_i h
      cases e
      cases ra
      cases rb
      exact .inr (.inl ⟨_, _, rfl, rfl, line_of h, q _ H (Same.refl H) rfl⟩)
    · cases e
  · split at e
    · rename_i l1 l2 h
      cases e
      obtain ⟨p, vs, rfl, n1, h1, r1⟩ := ra
      obtain ⟨p2, vs2, rfl, n2, h2, r2⟩ := rb
      refine .inr (.inr ⟨p, p2, vs, vs2, rfl, rfl, h1, h2, line_of (by rw [← r1.length, ← r2.length]; exact h), fun t ht => q _ _ (same_new ht) ?_⟩)
      exact ⟨t, vs ++ vs2, rfl, fun z => hx t z ht, upd_same, RepL.go (Same.go (same_new ht)) _ _ (r1.append r2)⟩
    · cases e
  · cases e
theorem opd_sub : OpD X g (binaryOp .Sub) oSub := by
  refine ⟨_, op_sub, fun m H a b d x y Q hx e ra rb q => ?_⟩
  unfold oSub at e
  split at e
  · cases e
    cases ra
    cases rb
    exact ⟨_, _, rfl, rfl, q _ H (Same.refl H) rfl⟩
  · cases e
theorem repRep {m : Mw} {H : Hp} {l : List D} {vs : List V} (r : RepL g m H l vs) : ∀ n, RepL g m H (List.replicate n l).flatten (List.replicate n vs).flatten
  | 0 => rfl
  | n + 1 => by
    simp only [List.replicate_succ, List.flatten_cons]
    exact r.append (repRep r n)
theorem opd_mul : OpD X g (binaryOp .Mult) oMul := by
  refine ⟨_, (op_mul.or op_rep), fun m H a b d x y Q hx e ra rb q => ?_⟩
  unfold oMul at e
  split at e
  · split at e
    · rename_i i j h
      cases e
      cases ra
      cases rb
      refine .inl ⟨i, j, rfl, rfl, ?_, q _ H (Same.refl H) rfl⟩
      have e64 : (2 : Nat) ^ 64 = 18446744073709551616 := by decide
      have f64 : (2 : Int) ^ 64 = 18446744073709551616 := by decide
      unfold CMul
      rw [f64]
      rw [e64] at h
      rcases h with h | h
      · exact .inl ⟨by omega, by omega⟩
      · exact .inr ⟨by omega, by omega⟩
    · cases e
  · split at e
    · rename_i l j h
      cases e
      obtain ⟨p, vs, rfl, n1, h1, r1⟩ := ra
      cases rb
      have f63 : (2 : Int) ^ 63 = 9223372036854775808 := by decide
      refine .inr ⟨p, j, vs, rfl, rfl, h1, by rw [f63]; omega, by rw [f63]; omega, line_of (by rw [← r1.length]; exact h.2), fun t ht => q _ _ (same_new ht) ?_⟩
      exact ⟨t, _, rfl, fun z => hx t z ht, upd_same, RepL.go (Same.go (same_new ht)) _ _ (repRep r1 _)⟩
    · cases e
  · cases e
theorem opd_div : OpD X g (binaryOp .FloorDiv) oDiv := by
  refine ⟨_, op_fdivW, fun m H a b d x y Q hx e ra rb q => ?_⟩
  unfold oDiv at e
  split at e
  · split at e
    · rename_i i j h
      cases e
      cases ra
      cases rb
      refine ⟨i, j, rfl, rfl, wide_div (b := 200) h.1 ?_ (by decide) (by decide), q _ H (Same.refl H) rfl⟩
      have h2 := h.2
      have e1 : ((2 ^ 200 : Nat) : Int) = (2 : Int) ^ 200 := by norm_cast
      omega
    · cases e
  · cases e
theorem opd_mod : OpD X g (binaryOp .Mod) oMod := by
  refine ⟨_, op_mod, fun m H a b d x y Q hx e ra rb q => ?_⟩
  unfold oMod at e
  split at e
  · split at e
    · rename_i i j h
      cases e
      cases ra
      cases rb
      exact ⟨i, j, rfl, rfl, h, q _ H (Same.refl H) rfl⟩
    · cases e
  · cases e
theorem opd_pow : OpD X g (binaryOp .Pow) oPow := by
  refine ⟨_, op_pow, fun m H a b d x y Q hx e ra rb q => ?_⟩
  unfold oPow at e
  split at e
  · split at e
    · rename_i i j h
      cases e
      cases ra
      cases rb
      exact ⟨i, j, rfl, rfl, ⟨h.1, by omega, h.2.2⟩, q _ H (Same.refl H) rfl⟩
    · cases e
  · cases e
theorem opd_cmp {op : CmpOp} {p : Int → Int → Bool} (h : OpR X (compareOp op) (rI0 fun i j => .bl (p i j))) : OpD X g (compareOp op) (oCmp p) := by
  refine ⟨_, h, fun m H a b d x y Q hx e ra rb q => ?_⟩
  unfold oCmp at e
  split at e
  · cases e
    cases ra
    cases rb
    exact ⟨_, _, rfl, rfl, q _ H (Same.refl H) rfl⟩
  · cases e
theorem opd_lt : OpD X g (compareOp .Lt) (oCmp fun i j => decide (i < j)) := opd_cmp op_lt
theorem opd_le : OpD X g (compareOp .LtE) (oCmp fun i j => decide (i ≤ j)) := opd_cmp op_le
theorem opd_gt : OpD X g (compareOp .Gt) (oCmp fun i j => decide (j < i)) := opd_cmp op_gt
theorem opd_ge : OpD X g (compareOp .GtE) (oCmp fun i j => decide (j ≤ i)) := opd_cmp op_ge
def oNeg : D → RD
  | .int i => .ok (.int (-i))
  | _ => .bad
theorem und_neg : UnD X g (unaryOp .USub) oNeg := by
  refine ⟨_, un_neg, fun m H a d x Q hx e ra q => ?_⟩
  unfold oNeg at e
  split at e
  · cases e
    cases ra
    exact ⟨_, rfl, q _ H (Same.refl H) rfl⟩
  · cases e
end
end DL

set_option Elab.async false
set_option linter.all false
set_option maxRecDepth 100000
set_option maxHeartbeats 4000000
namespace DL
open PySem L2 PySem.W

/-! ### an item -/
def oIx : D → D → RD
  | .lst l, .int i => (match atI l i with | some d => .ok d | none => .bad)
  | .tup l, .int i => (match atI l i with | some d => .ok d | none => .bad)
  | .str x, .int i => if x.length ≤ 100000 then (match atI x.cps.toList i with | some c => .ok (.str ⟨#[c]⟩) | none => .bad) else .bad
  | _, _ => .bad
theorem atI_rep {g : G} {m : Mw} {H : Hp} {l : List D} {vs : List V} {i : Int} {d : D} (r : RepL g m H l vs) (h : atI l i = some d) : ∃ v, atI vs i = some v ∧ Rep g m H d v := by
  unfold atI at h ⊢
  rw [← r.length]
  obtain ⟨j, h1, h2⟩ := Option.bind_eq_some_iff.mp h
  obtain ⟨v, h3, h4⟩ := r.get h2
  exact ⟨v, by rw [h1]; exact h3, h4⟩
section
variable {X : Cx} {g : G} {m : Mw} {W : WX} {pos p : Pos} {a b e : Expr} {es : List Expr} {fa fb f : F} {fs : FA} {x : Str}
theorem d_ix (ha : PE X a (tD g m W fa)) (hb : PE X b (tD g m W fb)) (hs : PlainIx b := by exact fun _ _ => rfl) : PE X (.Subscript a b pos) (tD g m W (fOp oIx fa fb)) :=
  PE.to (pe_ix ix_seq ha hb hs) (op_to fun m H a b d x y Q hx e ra rb q => by
    unfold oIx at e
    split at e
    · split at e
      · rename_i d0 ed
        cases e
        obtain ⟨p, vs, rfl, n, h1, r1⟩ := ra
        cases rb
        obtain ⟨v, h2, h3⟩ := atI_rep r1 ed
        exact .inl ⟨p, vs, _, v, rfl, rfl, SqL.of h1, h2, q v H (Same.refl H) h3⟩
      · cases e
    · split at e
      · rename_i d0 ed
        cases e
        obtain ⟨p, vs, rfl, n, h1, r1⟩ := ra
        cases rb
        obtain ⟨v, h2, h3⟩ := atI_rep r1 ed
        exact .inr (.inl ⟨p, vs, _, v, rfl, rfl, SqT.of h1, h2, q v H (Same.refl H) h3⟩)
      · cases e
    · split at e
      · rename_i hz
        split at e
        · rename_i c ec
          cases e
          cases ra
          cases rb
          exact .inr (.inr ⟨_, _, c, rfl, rfl, line_of hz, ec, q _ H (Same.refl H) rfl⟩)
        · cases e
      · cases e
    · cases e)
/-! ### built-ins by name -/
theorem cb_to {r : List V → Hp → VK → Prop} {o : List D → RD} (hr : ∀ m H a d x (Q : VK), (∀ z, m.ex z → H z ≠ none) → o a = .ok d → RepL g m H a x → (∀ v H', Same H H' → Rep g m H' d v → Q v H') → r x H Q) :
    ∀ σ H Q, tD g m W (fCB o fs) σ H Q → tCB r (tDA g m W fs) σ H Q := fun σ H Q ⟨ρ, st, hE, hP, h⟩ =>
  seqA (Go.refl m H) hE hP h fun ds st1 vs H1 g1 _ p1 r1 e1 h1 => by
    obtain ⟨d, ed, q⟩ := after_at h1 g1 p1
    exact hr m H1 ds d vs Q p1.1 ed r1 q
theorem d_callB {id : String} {o : List D → RD} (hc : CallD X g (.builtin id) o) (hm : X.mg x = none) (hv : bootBuiltins x = some (.builtin id)) (ha : PA X (e :: es) (tDA g m W fs)) (hg : Gl X x := by rfl) (hn : x ≠ "__name__" := by decide) (hdb : (x == ("__debug__" : Str)) = false := by decide)
    (he : starEach (e :: es) X.env = (false, eval e X.env) :: starEach es X.env := by rfl) (hpl : (backTo pos (starEach es X.env)).any (·.1) = false := by rfl) : PE X (.Call (.Name x p) (e :: es) [] pos) (tD g m W (fCB o fs)) := by
  obtain ⟨r, h1, h2⟩ := hc
  exact PE.to (pe_callB h1 hg hm hv ha hn hdb he hpl) (cb_to h2)
theorem d_callTy {T : String} {o : List D → RD} (hc : CallD X g (.type T) o) (hm : X.mg x = none) (hv : bootBuiltins x = some (.type T)) (ha : PA X (e :: es) (tDA g m W fs)) (hg : Gl X x := by rfl) (hn : x ≠ "__name__" := by decide) (hdb : (x == ("__debug__" : Str)) = false := by decide)
    (he : starEach (e :: es) X.env = (false, eval e X.env) :: starEach es X.env := by rfl) (hpl : (backTo pos (starEach es X.env)).any (·.1) = false := by rfl) : PE X (.Call (.Name x p) (e :: es) [] pos) (tD g m W (fCB o fs)) := by
  obtain ⟨r, h1, h2⟩ := hc
  exact PE.to (pe_callTy h1 hg hm hv ha hn hdb he hpl) (cb_to h2)
end
def cLen : List D → RD
  | [.lst l] => .ok (.int l.length)
  | [.tup l] => .ok (.int l.length)
  | [.str x] => if x.length ≤ 100000 then .ok (.int x.length) else .bad
  | _ => .bad
def cAbs : List D → RD
  | [.int i] => .ok (.int (if i < 0 then -i else i))
  | _ => .bad
def cInt : List D → RD
  | [.int i] => .ok (.int i)
  | [.bl b] => .ok (.int (if b then 1 else 0))
  | _ => .bad
def cList : List D → RD
  | [.lst l] => .ok (.lst l)
  | [.tup l] => .ok (.lst l)
  | _ => .bad
def cTuple : List D → RD
  | [.lst l] => .ok (.tup l)
  | [.tup l] => .ok (.tup l)
  | _ => .bad
section
variable {X : Cx} {g : G}
theorem one_inv {m : Mw} {H : Hp} {d : D} {xs : List V} (r : RepL g m H [d] xs) : ∃ v, xs = [v] ∧ Rep g m H d v := by
  obtain ⟨v, _, rfl, rv, z⟩ := r
  cases z
  exact ⟨v, rfl, rv⟩
theorem calld_len : CallD X g (.builtin "len") cLen := by
  refine ⟨_, call_len, fun m H a d x Q hx e ra q => ?_⟩
  unfold cLen at e
  split at e
  · obtain ⟨v, rfl, p, vs, rfl, n, h1, r1⟩ := one_inv ra
    cases e
    exact ⟨_, _, rfl, .inl ⟨vs, SqL.of h1, rfl⟩, by rw [← r1.length]; exact q _ H (Same.refl H) rfl⟩
  · obtain ⟨v, rfl, p, vs, rfl, n, h1, r1⟩ := one_inv ra
    cases e
    exact ⟨_, _, rfl, .inr ⟨vs, SqT.of h1, rfl⟩, by rw [← r1.length]; exact q _ H (Same.refl H) rfl⟩
  · split at e
    · rename_i hz
      obtain ⟨v, rfl, rv⟩ := one_inv ra
      cases rv
      cases e
      exact ⟨_, _, rfl, ⟨line_of hz, rfl⟩, q _ H (Same.refl H) rfl⟩
    · cases e
  · cases e
theorem calld_abs : CallD X g (.builtin "abs") cAbs := by
  refine ⟨_, call_abs, fun m H a d x Q hx e ra q => ?_⟩
  unfold cAbs at e
  split at e
  · obtain ⟨v, rfl, rv⟩ := one_inv ra
    cases rv
    cases e
    exact ⟨_, rfl, q _ H (Same.refl H) rfl⟩
  · cases e
theorem calld_int : CallD X g (.type "int") cInt := by
  refine ⟨_, call_int1, fun m H a d x Q hx e ra q => ?_⟩
  unfold cInt at e
  split at e
  · obtain ⟨v, rfl, rv⟩ := one_inv ra
    cases rv
    cases e
    exact .inl ⟨_, rfl, q _ H (Same.refl H) rfl⟩
  · obtain ⟨v, rfl, rv⟩ := one_inv ra
    cases rv
    cases e
    exact .inr ⟨_, rfl, q _ H (Same.refl H) rfl⟩
  · cases e
theorem calld_list : CallD X g (.type "list") cList := by
  refine ⟨_, call_list_of, fun m H a d x Q hx e ra q => ?_⟩
  unfold cList at e
  split at e
  · obtain ⟨v, rfl, p, vs, rfl, n, h1, r1⟩ := one_inv ra
    cases e
    exact ⟨p, vs, rfl, .inl (SqL.of h1), fun l hl => q _ _ (same_new hl) ⟨l, vs, rfl, fun z => hx l z hl, upd_same, RepL.go (Same.go (same_new hl)) _ _ r1⟩⟩
  · obtain ⟨v, rfl, p, vs, rfl, n, h1, r1⟩ := one_inv ra
    cases e
    exact ⟨p, vs, rfl, .inr (SqT.of h1), fun l hl => q _ _ (same_new hl) ⟨l, vs, rfl, fun z => hx l z hl, upd_same, RepL.go (Same.go (same_new hl)) _ _ r1⟩⟩
  · cases e
theorem calld_tuple : CallD X g (.type "tuple") cTuple := by
  refine ⟨_, call_tuple_of, fun m H a d x Q hx e ra q => ?_⟩
  unfold cTuple at e
  split at e
  · obtain ⟨v, rfl, p, vs, rfl, n, h1, r1⟩ := one_inv ra
    cases e
    exact ⟨p, vs, rfl, .inl ⟨SqL.of h1, fun l hl => q _ _ (same_new hl) ⟨l, vs, rfl, fun z => hx l z hl, upd_same, RepL.go (Same.go (same_new hl)) _ _ r1⟩⟩⟩
  · obtain ⟨v, rfl, p, vs, rfl, n, h1, r1⟩ := one_inv ra
    cases e
    exact ⟨p, vs, rfl, .inr ⟨SqT.of h1, q _ H (Same.refl H) ⟨p, vs, rfl, n, h1, r1⟩⟩⟩
  · cases e
end

/-! ### isinstance -/
inductive Ty where
  | b (n : String) | o (c : Nat) | x (c : Nat)
  deriving DecidableEq
def Ty.val (g : G) : Ty → Value
  | .b n => .type n
  | .o c => .ref (g.ct c)
  | .x c => .ref (g.ct c)
def tyD : D → Option Ty
  | .non => some (.b "NoneType") | .bl _ => some (.b "bool") | .int _ => some (.b "int") | .str _ => some (.b "str")
  | .lst _ => some (.b "list") | .tup _ => some (.b "tuple") | .dct _ _ => some (.b "dict") | .obj c _ => some (.o c) | .exc c _ => some (.x c) | _ => none
def clsVal (g : G) : D → Option Value
  | .cls c => some (.ref (g.ct c))
  | .ty n => some (.type n)
  | _ => none
abbrev Kit := Ty → D → Option Bool
def kitAnyD (kit : Kit) (t : Ty) : List D → Option Bool
  | [] => some false
  | c :: r => match kit t c with
    | some true => some true
    | some false => kitAnyD kit t r
    | none => none
def isCls : D → Bool
  | .cls _ => true | .ty _ => true | _ => false
def cIsi (kit : Kit) : List D → RD
  | [d, .tup (c0 :: cs0)] => (match tyD d with | some t => if (c0 :: cs0).all isCls then (match kitAnyD kit t (c0 :: cs0) with | some b => .ok (.bl b) | none => .bad) else .bad | none => .bad)
  | [d, c] => (match tyD d with | some t => if isCls c then (match kit t c with | some b => .ok (.bl b) | none => .bad) else .bad | none => .bad)
  | _ => .bad
/-- what isinstance asks of the classes -/
structure InsC (K : Frag) (C : Addr) : Prop where
  cl : Cls K C
  ha : findIn K (.ref C) "__class__" = some (some (.builtin "object.__class__"))
  hn : specialIn K (.builtin "object.__class__") "__get__" = some (some (.builtin "getset_descriptor.__get__"))
  ht : takesIn K (.builtin "object.__class__") = some true
  hm : mroIn K C (.type "object") = some true
structure ExiC (K : Frag) (C : Addr) : Prop where
  hc : (clsIn K C).isSome = true
  hg : findIn K (.ref C) "__getattribute__" = some (some (.builtin "BaseException.__getattribute__"))
  hk : findIn K (.ref C) "__getattr__" = some none
  hs : subIn K (.ref C) (.type "BaseException") = some true
  ha : findIn K (.ref C) "__class__" = some (some (.builtin "object.__class__"))
  hn : specialIn K (.builtin "object.__class__") "__get__" = some (some (.builtin "getset_descriptor.__get__"))
  ht : takesIn K (.builtin "object.__class__") = some true
  hm : mroIn K C (.type "object") = some true
structure Kit.ok (kit : Kit) (g : G) (K : Frag) : Prop where
  one : ∀ t c v b, kit t c = some b → clsVal g c = some v → kitOne K (t.val g) v = some b
  obj : ∀ c d b, kit (.o c) d = some b → InsC K (g.ct c)
  exc : ∀ c d b, kit (.x c) d = some b → ExiC K (g.ct c)
section
variable {X : Cx} {g : G} {pins : List (Addr × Obj)} {σ : St} {H : Hp} {s : Shared} {m : Mw}
theorem kit_rep {d : D} {x : V} {u : Value} {t : Ty} (hO : ∀ c l, d = .obj c l → InsC X.K (g.ct c)) (hX : ∀ c l, d = .exc c l → ExiC X.K (g.ct c)) (I : Inv X pins σ H s) (rx : RelV x u) (r : Rep g m H d x) (ht : tyD d = some t) :
    ∃ P : Heap → Prop, KitX X.K u (t.val g) P ∧ P s.heap ∧ u ≠ .builtin "__main__.__loader__#opaque" := by
  cases d with
  | non => cases ht; cases r; exact kit_of I rx (.base .non)
  | bl b => cases ht; cases r; exact kit_of I rx (.base (.bl b))
  | int i => cases ht; cases r; exact kit_of I rx (.base (.int i))
  | str y => cases ht; cases r; exact kit_of I rx (.base (.str y))
  | lst l => cases ht; obtain ⟨a, vs, rfl, n, hs, hr⟩ := r; exact kit_of I rx (.base (.lst hs))
  | tup l => cases ht; obtain ⟨a, vs, rfl, n, hs, hr⟩ := r; exact kit_of I rx (.base (.tup hs))
  | dct ks l => cases ht; obtain ⟨a, vs, rfl, n, hk, hs, hr⟩ := r; exact kit_of I rx (.base (.dK hs))
  | obj c l =>
    cases ht
    have T := hO c l rfl
    obtain ⟨a, dx, vs, rfl, n, hk, hs, hr⟩ := r
    exact kit_of I rx (.base (.ins hs T.cl T.ha T.hn T.ht T.hm))
  | exc c l =>
    cases ht
    have T := hX c l rfl
    obtain ⟨a, od, vs, rfl, n, hk, hs, hd, hr⟩ := r
    cases (show u = Value.ref a from rx)
    obtain ⟨⟨oe, ws, ha, hc, hdc, hdt, _⟩, _, _⟩ := I.hok a _ hs
    cases od with
    | none => exact ⟨_, kitx_exc T.hc T.hg T.hk T.hs T.ha T.hn T.ht T.hm, (⟨ha, hc, by unfold notCls; rw [hdt] <;> rfl, by rw [hdc]; exact trivial⟩ : InstAt s.heap a oe (g.ct c) none), fun z => nomatch z⟩
    | some dx =>
      obtain ⟨mA, hns, hrl⟩ := I.hok dx _ hd.2
      obtain ⟨od, hod, hlk⟩ := lookIn_ns hns
      exact ⟨_, kitx_exc T.hc T.hg T.hk T.hs T.ha T.hn T.ht T.hm, (⟨ha, hc, by unfold notCls; rw [hdt] <;> rfl, by rw [hdc]; exact hod⟩ : InstAt s.heap a oe (g.ct c) (some od)), fun z => nomatch z⟩
  | cls c => cases ht
  | ty n => cases ht
  | pen => cases ht
theorem clsV_of {c : D} {y : V} (h : isCls c = true) (r : Rep g m H c y) : ∃ v, clsVal g c = some v ∧ ClsV y v := by
  cases c with
  | cls n => cases r; exact ⟨_, rfl, .own _⟩
  | ty n => cases r; exact ⟨_, rfl, .ty _⟩
  | _ => cases h
theorem clsV_all : ∀ {cs : List D} {ys : List V}, cs.all isCls = true → RepL g m H cs ys → ∃ vs, (∀ kit : Kit, kit.ok g X.K → ∀ t b, kitAnyD kit t cs = some b → kitAny X.K (t.val g) vs = some b) ∧ Paired ClsV ys vs
  | [], _, _, r => by cases r; exact ⟨[], fun _ _ _ _ e => e, .nil⟩
  | c :: cs, _, h, ⟨y, ys, hv, r1, r2⟩ => by
    obtain ⟨h1, h2⟩ := Bool.and_eq_true_iff.mp (by simpa using h : (isCls c && cs.all isCls) = true)
    subst hv
    obtain ⟨v, e1, k1⟩ := clsV_of h1 r1
    obtain ⟨vs, k2, k3⟩ := clsV_all h2 r2
    refine ⟨v :: vs, fun kit hk t b e => ?_, .cons k1 k3⟩
    unfold kitAnyD at e
    split at e
    · rename_i ek
      cases e
      exact kitAny_cons (hk.one t c v true ek e1) (fun z => nomatch z) fun _ => rfl
    · rename_i ek
      exact kitAny_cons (hk.one t c v false ek e1) (fun _ => k2 kit hk t b e) fun z => nomatch z
    · cases e
def rIsiD (X : Cx) (g : G) (kit : Kit) : List V → Hp → VK → Prop := fun xs H Q => ∃ m d x c y b, xs = [x, y] ∧ (∀ c l, d = .obj c l → InsC X.K (g.ct c)) ∧ (∀ c l, d = .exc c l → ExiC X.K (g.ct c)) ∧ Rep g m H d x ∧ Rep g m H c y ∧ cIsi kit [d, c] = .ok (.bl b) ∧ Q (.bl b) H
theorem callr_isi {kit : Kit} (hk : kit.ok g X.K) : CallR X (.builtin "isinstance") (rIsiD X g kit) := by
  intro pins s σ H xs us Q I r ⟨m, d, x, c, y, b, ex, hO, hX, rd, rc, e, q⟩
  subst ex
  obtain ⟨u1, u2, rfl, r1, r2⟩ := vals2 r
  have one : ∀ t, tyD d = some t → isCls c = true → kit t c = some b → wpAny (model X.prog X.w) X.A (call (.builtin "isinstance") [u1, u2]) (EP X pins σ Q) X.xe s := fun t et hc ek => by
    obtain ⟨P, Z, p, hx⟩ := kit_rep hO hX I r1 rd et
    obtain ⟨v, e1, k1⟩ := clsV_of hc rc
    have e2 := k1.eq r2
    subst e2
    exact kia_one Z I.kIn p (hk.one t c _ b ek e1) hx fun tk => ⟨.bl b, H, I.tok tk, rfl, q⟩
  unfold cIsi at e
  split at e
  · rename_i d0 c0 cs0 eq
    cases eq
    split at e
    · rename_i t et
      split at e
      · rename_i hc
        split at e
        · rename_i b' ek
          cases e
          obtain ⟨P, Z, p, hx⟩ := kit_rep hO hX I r1 rd et
          obtain ⟨tp, ys, hy, n, hT, rl⟩ := rc
          subst hy
          cases (show u2 = Value.ref tp from r2)
          obtain ⟨vs, k1, k2⟩ := clsV_all (X := X) hc rl
          obtain ⟨_, its, rv, o, h1, h2, nn, h3⟩ := (show ObjOk X.prog X.w H s.heap tp (.tup ys) from I.hok tp _ hT)
          have e3 := ClsV.all k2 rv
          subst e3
          obtain ⟨oc, od, dt, sl⟩ := o
          simp only at h2 h3
          subst h2 h3
          exact kia_tup Z I.kIn p h1 (k1 kit hk t _ ek) hx fun tk => ⟨.bl _, H, I.tok tk, rfl, q⟩
        · cases e
      · cases e
    · cases e
  · rename_i d0 c0 hne eq
    cases eq
    split at e
    · rename_i t et
      split at e
      · rename_i hc
        split at e
        · rename_i b' ek
          cases e
          exact one t et hc ek
        · cases e
      · cases e
    · cases e
  · rename_i h1 h2
    exact absurd rfl (h2 d c)
theorem calld_isi {kit : Kit} (hk : kit.ok g X.K) : CallD X g (.builtin "isinstance") (cIsi kit) := by
  refine ⟨_, callr_isi hk, fun m H a d x Q hx e ra q => ?_⟩
  have two : ∀ d0 c0, a = [d0, c0] → ∃ v w, x = [v, w] ∧ Rep g m H d0 v ∧ Rep g m H c0 w := fun d0 c0 ea => by
    subst ea
    obtain ⟨v, _, rfl, rv, w, _, rfl, rw', z⟩ := ra
    cases z
    exact ⟨v, w, rfl, rv, rw'⟩
  have done : ∀ d0 c0 t b, a = [d0, c0] → tyD d0 = some t → (∃ c1 b1, kit t c1 = some b1) → d = .bl b → cIsi kit a = .ok (.bl b) → rIsiD X g kit x H Q := fun d0 c0 t b ea et ⟨c1, b1, ek⟩ ed e => by
    obtain ⟨v, w, rfl, rv, rw'⟩ := two d0 c0 ea
    subst ea ed
    refine ⟨m, d0, v, c0, w, b, rfl, fun c l z => ?_, fun c l z => ?_, rv, rw', e, q _ H (Same.refl H) rfl⟩
    · subst z
      cases et
      exact hk.obj c c1 b1 ek
    · subst z
      cases et
      exact hk.exc c c1 b1 ek
  have e0 := e
  unfold cIsi at e
  split at e
  · rename_i d0 c0 cs0
    split at e
    · rename_i t et
      split at e
      · split at e
        · rename_i b ek
          cases e
          refine done d0 _ t b rfl et ?_ rfl e0
          unfold kitAnyD at ek
          split at ek
          · rename_i z; exact ⟨c0, true, z⟩
          · rename_i z; exact ⟨c0, false, z⟩
          · cases ek
        · cases e
      · cases e
    · cases e
  · rename_i d0 c0 hne
    split at e
    · rename_i t et
      split at e
      · split at e
        · rename_i b ek
          cases e
          exact done d0 _ t b rfl et ⟨c0, b, ek⟩ rfl e0
        · cases e
      · cases e
    · cases e
  · cases e
end

/-! ### enumerate -/
def enumFrom (k : Nat) : List D → List D
  | [] => []
  | d :: ds => .tup [.int k, d] :: enumFrom (k + 1) ds
theorem enum_get : ∀ (l : List D) (k i : Nat), (enumFrom k l)[i]? = (l[i]?).map fun d => .tup [.int ((k + i : Nat) : Int), d]
  | [], _, _ => by simp [enumFrom]
  | d :: l, k, 0 => by simp [enumFrom]
  | d :: l, k, i + 1 => by
    have := enum_get l (k + 1) i
    simp only [enumFrom, List.getElem?_cons_succ, this]
    have e : k + 1 + i = k + (i + 1) := by omega
    rw [e]
theorem enum_len : ∀ (l : List D) (k : Nat), (enumFrom k l).length = l.length
  | [], _ => rfl
  | d :: l, k => by simp [enumFrom, enum_len l (k + 1)]
def fEnum (fa : FA) : FA := fun ρ st => (fa ρ st).bind fun ds st1 => match ds with | [.lst l] => .ok (enumFrom 0 l) st1 | _ => .bad
section
variable {X : Cx} {g : G} {m : Mw} {W : WX} {pos p tpos : Pos} {e : Expr} {elts : List Expr} {kk : Nat} {fa : FA}
theorem walks_enum {H : Hp} {a : Addr} {vs : List V} {ds : List D} (K : Frag) (n : ¬ m.ex a) (hs : H a = some (.lst vs)) (hr : RepL g m H ds vs) : Walks g m (Ite K a) H (enumFrom 0 ds) := by
  intro m' v i H' eg
  have n' : ¬ m'.ex a := fun z => (v.ex a z).elim n (rd_there (.inl hs))
  have hs' : H' a = some (.lst vs) := eg _ _ hs (Mw.nmt n')
  refine ⟨fun d hd => ?_, fun hl => ⟨vs, SqL.of hs', by rw [← hr.length]; rw [enum_len] at hl; exact hl⟩⟩
  rw [enum_get] at hd
  obtain ⟨d0, h1, h2⟩ := Option.map_eq_some_iff.mp hd
  obtain ⟨x0, h3, h4⟩ := (RepL.view v.pen v.ex _ _ hr).get h1
  refine ⟨⟨vs, x0, SqL.of hs', h3⟩, fun x H'' y => ?_⟩
  obtain ⟨T, z, ex, hT, eH, y⟩ := y
  subst ex eH
  have q := y vs (SqL.of hs')
  rw [h3] at q
  cases q
  refine ⟨same_new hT, fun hx => ?_⟩
  subst h2
  refine ⟨T, _, rfl, fun z => hx T z hT, upd_same, .cons ?_ (.one (Rep.go (Same.go (same_new hT)) _ _ (Rep.go eg _ _ h4)))⟩
  show V.int _ = V.int _
  simp
theorem di_enum (hm : X.mg "enumerate" = none) (ha : PA X [e] (tDA g m W fa)) (hg : Gl X "enumerate" := by rfl) (hs : starEach [e] X.env = [(false, eval e X.env)] := by rfl) :
    PI X (.Tuple elts kk tpos) (.Call (.Name "enumerate" p) [e] [] pos) (tDI g m W (fEnum fa)) :=
  PI.to (pi_enum hg hm ha hs) fun σ H R ⟨ρ, st, hE, hP, h⟩ => seqA (Go.refl m H) hE hP h fun ds st1 vs H1 g1 _ p1 r1 e1 h1 => by
    split at h1
    · obtain ⟨v, rfl, a, ws, rfl, n, hs, hr⟩ := one_inv r1
      exact ⟨a, ws, rfl, SqL.of hs, h1 _ H1 g1 p1 (walks_enum X.K n hs hr)⟩
    · exact h1.elim
end
end DL

set_option Elab.async false
set_option linter.all false
set_option maxRecDepth 100000
set_option maxHeartbeats 4000000
namespace DL
open PySem L2 PySem.W

/-! ### small dicts -/
section
variable {X : Cx} {g : G} {m : Mw} {W : WX} {pos p1 p2 : Pos} {k : Str} {i : Int} {j1 j2 : Nat}
theorem d_dict0 : PE X (.Dict [] [] pos) (tD g m W (fC (.dct [] []))) := PE.to pe_dnewK fun σ H Q ⟨ρ, st, hE, hP, h⟩ p hp =>
  h _ _ (Same.go (same_new hp)) (hP.same (same_new hp)) ⟨p, [], rfl, hP.fresh hp, rfl, upd_same, rfl⟩
theorem d_dict1 : PE X (.Dict [some (.Constant (.str k) j1 p1)] [.Constant (.int i) j2 p2] pos) (tD g m W (fC (.dct [.inr k] [.int i]))) :=
  PE.to (pe_disp (pps_cons pe_str pe_int pps_nil) (by rfl) (by rfl) (fun z => by cases z) (by show 1 ≤ 15; decide)) fun σ H Q ⟨ρ, st, hE, hP, h⟩ p hp => by
    refine ⟨upd_same, [(.inr k, .int i)], rfl, (by show 1 ≤ 15; decide), ?_⟩
    rw [upd_upd]
    exact h _ _ (Same.go (same_new hp)) (hP.same (same_new hp)) ⟨p, [.int i], rfl, hP.fresh hp, rfl, upd_same, .one rfl⟩
end

/-! ### an exception class without __init__: what it is made with is not told -/
def fExcP (c : Nat) (fa : FA) : F := fun ρ st => (fa ρ st).bind fun ds st1 => if ds.length ≤ 1000 then .ok (.exc c []) st1 else .bad
section
variable {X : Cx} {g : G} {m : Mw} {W : WX} {pos p : Pos} {c : Nat} {x : Str} {e : Expr} {es : List Expr} {fa : FA} {bmB : List Value} {B newId initId : String}
theorem run_excP {pins : List (Addr × Obj)} {σ : St} {H : Hp} {s : Shared} {Q : VK} {us : List Value} {st : Pn} {A : Around} {E : Value → Shared → Prop} (FB : ExcBaseFacts B newId initId bmB) (q : excIn X.K (g.ct c) bmB newId = true) (hf : g.fn c = []) (I : Inv X pins σ H s) (hP : PenAt g m H st)
    (hz : us.length ≤ sizeLine) (hq : ∀ v H', Same H H' → Rep g m H' (.exc c []) v → Q v H') : wpAny (model X.prog X.w) A (call (.ref (g.ct c)) us) (EP X pins σ Q) E s := by
  obtain ⟨hp, gg, d, t, os⟩ := s
  obtain ⟨bm, N, nm, qn, bs, hdct, sn, sub, ab, col, dd, k0, k1, k2, k3, k5, mN, hC, hN, hni, T⟩ := exc_obj I.kIn q
  refine wpAny_call_exc_subT FB T hC hN hni (fun h' a hm => ?_) hz
  obtain ⟨t0, ht, _, _⟩ := hm.there
  obtain ⟨H', I', sm, ha, hna, _⟩ := Inv.madeX (C := g.ct c) (e := a) (od := none) (ps := []) (us := []) (vs := []) (t' := t) I ⟨hm.keeps, hm.new, ⟨t0, ht⟩, rfl⟩ .nil rfl
  exact ⟨.ref a, H', I', rfl, hq _ H' sm ⟨a, none, [], rfl, hP.fresh hna, (by rw [hf]; rfl), ha, rfl, rfl⟩⟩
theorem d_excP (FB : ExcBaseFacts B newId initId bmB) (q : excIn X.K (g.ct c) bmB newId = true) (hf : g.fn c = []) (kC : keepIn X.K (.ref (g.ct c)) = true) (hm : X.mg x = some (.ref (g.ct c))) (ha : PA X (e :: es) (tDA g m W fa)) (hg : Gl X x := by rfl) (hdb : (x == ("__debug__" : Str)) = false := by decide)
    (he : starEach (e :: es) X.env = (false, eval e X.env) :: starEach es X.env := by rfl) (hpl : (backTo pos (starEach es X.env)).any (·.1) = false := by rfl) : PE X (.Call (.Name x p) (e :: es) [] pos) (tD g m W (fExcP c fa)) := by
  refine ⟨fun pins s σ H Q I ⟨ρ, st, hE, hP, h⟩ => ?_⟩
  refine wpAny_Call_Name_kw (ld_glob I hg hm (callWith_K (h₀ := X.base) I.ok.mod.kin kC ?_ he hpl) hdb)
  have ht : tDA g m W fa σ H (fun vs H1 => ∃ st1, PenAt g m H1 st1 ∧ vs.length ≤ 1000 ∧ ∀ v H', Same H1 H' → Rep g m H' (.exc c []) v → Q v H') :=
    seqA (Go.refl m H) hE hP h fun ds st1 vs H1 g1 _ p1 r1 e1 h1 => by
      by_cases hl : ds.length ≤ 1000
      · rw [if_pos hl] at h1
        exact ⟨st1, p1, by rw [← r1.length]; exact hl, fun v H' sm rv => h1 v H' (g1.trans (Same.go sm)) (p1.same sm) rv⟩
      · rw [if_neg hl] at h1
        exact h1.elim
  refine thn (ha.run pos pins s σ H _ I ht) fun us s1 ⟨vs, H1, I1, r, st1, p1, hl, q2⟩ => ⟨I1.kIn, ?_⟩
  exact run_excP FB q hf I1 p1 (by show us.length ≤ sizeLine; rw [← r.length]; exact line_of (Nat.le_trans hl (by decide))) q2
theorem d_excP0 (FB : ExcBaseFacts B newId initId bmB) (q : excIn X.K (g.ct c) bmB newId = true) (hf : g.fn c = []) (kC : keepIn X.K (.ref (g.ct c)) = true) (hm : X.mg x = some (.ref (g.ct c))) (hg : Gl X x := by rfl) (hdb : (x == ("__debug__" : Str)) = false := by decide) :
    PE X (.Call (.Name x p) [] [] pos) (tD g m W (fExcP c fNil)) := by
  refine ⟨fun pins s σ H Q I ⟨ρ, st, hE, hP, h⟩ => ?_⟩
  refine wpAny_Call_Name_kw (ld_glob I hg hm (callWith_K0 I.kIn kC ?_) hdb)
  exact run_excP (us := []) FB q hf I hP (Nat.zero_le _) fun v H' sm rv => h v H' (Same.go sm) (hP.same sm) rv
end

/-! ### the pen -/
def fPen (i : Int) (fa : F) : F := fun ρ st => (fa ρ st).bind fun d st1 => match d with
  | .pen => if i = 0 then .ok (.lst (st1.xs.map D.int)) st1 else if i = 1 then .ok (.int st1.at_) st1 else if i = 2 then .ok (.int st1.left) st1 else .bad
  | _ => .bad
def fPenSet (i : Int) (fe fa : F) : FS := fun ρ st => (fe ρ st).to ρ fun v st1 => (fa ρ st1).to ρ fun d st2 => match d, v with
  | .pen, .int n => if 0 ≤ n ∧ Big 4 n.toNat then (if i = 1 then .nx ρ { st2 with at_ := n.toNat } else if i = 2 then .nx ρ { st2 with left := n.toNat } else .bad) else .bad
  | _, _ => .bad
section
variable {X : Cx} {g : G} {m : Mw} {W : WX} {pos p1 p2 : Pos} {a e : Expr} {i : Int} {j : Nat} {fa fe : F}
theorem repInts {H : Hp} : ∀ l : List Int, RepL g m H (l.map D.int) (l.map V.int)
  | [] => rfl
  | i :: l => .cons rfl (repInts l)
theorem d_pen (ha : PE X a (tD g m W fa)) : PE X (.Subscript a (.Constant (.int i) j p1) pos) (tD g m W (fPen i fa)) :=
  PE.to (pe_ix ix_list ha pe_int (fun _ _ => rfl)) fun σ H Q ⟨ρ, st, hE, hP, h⟩ => seqD (Go.refl m H) hE hP h fun d st1 v H1 g1 _ p1 r1 e1 h1 => by
    cases d with
    | pen =>
      obtain ⟨p, hp, rfl⟩ := r1
      obtain ⟨mt, ok, l, nl, hh, hl⟩ := p1.2 p hp
      dsimp only at h1
      by_cases h0 : i = 0
      · subst h0
        rw [if_pos rfl] at h1
        exact ⟨p, _, 0, .ref l, rfl, rfl, SqL.of hh, rfl, h1 _ H1 g1 p1 ⟨l, _, rfl, nl, hl, repInts _⟩⟩
      · rw [if_neg h0] at h1
        by_cases h2 : i = 1
        · subst h2
          rw [if_pos rfl] at h1
          exact ⟨p, _, 1, _, rfl, rfl, SqL.of hh, rfl, h1 _ H1 g1 p1 rfl⟩
        · rw [if_neg h2] at h1
          by_cases h3 : i = 2
          · subst h3
            rw [if_pos rfl] at h1
            exact ⟨p, _, 2, _, rfl, rfl, SqL.of hh, rfl, h1 _ H1 g1 p1 rfl⟩
          · rw [if_neg h3] at h1
            exact h1.elim
    | _ => exact h1.elim
theorem pen_upd {H : Hp} {st st' : Pn} {p : Addr} {v : List V} (hP : PenAt g m H st) (hp : m.pen = some p) (ok : PenOk st') (hx : st'.xs = st.xs) (hv : ∀ l, H p = some (.lst [.ref l, .int st.at_, .int st.left]) → v = [.ref l, .int st'.at_, .int st'.left]) :
    PenAt g m (upd H p (.lst v)) st' ∧ Go m H (upd H p (.lst v)) := by
  obtain ⟨mt, _, l, nl, hh, hl⟩ := hP.2 p hp
  refine ⟨⟨fun b hb => ?_, fun q hq => ?_⟩, fun b o hb nb => ?_⟩
  · by_cases z : b = p
    · subst z
      rw [upd_same]
      exact fun z => nomatch z
    · rw [upd_ne z]
      exact hP.1 b hb
  · rw [hp] at hq
    cases hq
    refine ⟨mt, ok, l, nl, by rw [upd_same, hv l hh], ?_⟩
    rw [upd_ne (fun z => nl (by rw [z]; exact .inl mt)), hx]
    exact hl
  · rw [upd_ne (fun z => nb (by rw [z]; exact mt))]
    exact hb
theorem ds_penSet (he : PE X e (tD g m W fe)) (ha : PE X a (tD g m W fa)) (hs : swapsWithSole [.Subscript a (.Constant (.int i) j p1) p2] e pos.line X.env = pure false := by rfl) (hw : swappedStores [.Subscript a (.Constant (.int i) j p1) p2] e X.env = pure none := by rfl)
    (h1 : (assignEach [.Subscript a (.Constant (.int i) j p1) p2] X.env).map (·.2) = [assign (.Subscript a (.Constant (.int i) j p1) p2) X.env] := by rfl) : PS X (.Assign [.Subscript a (.Constant (.int i) j p1) p2] e pos) (tDS g m W (fPenSet i fe fa)) :=
  PS.to (ps_asg he (pg_sub ha pe_int set_list) hs hw h1) fun Dn σ H ⟨ρ, st, hE, hP, h⟩ => seqDS hE hP h fun d st1 v H1 g1 p1 r1 e1 h1 => seqDS e1 p1 h1 fun d2 st2 v2 H2 g2 p2 r2 e2 h2 => by
    have r1' := Rep.go g2 _ _ r1
    cases d2 with
    | pen =>
      cases d with
      | int n =>
        obtain ⟨p, hp, rfl⟩ := r2
        cases r1'
        dsimp only at h2
        obtain ⟨mt, ok, l, nl, hh, hl⟩ := p2.2 p hp
        by_cases hn : 0 ≤ n ∧ Big 4 n.toNat
        · rw [if_pos hn] at h2
          have en : ((n.toNat : Nat) : Int) = n := Int.toNat_of_nonneg hn.1
          by_cases h3 : i = 1
          · subst h3
            rw [if_pos rfl] at h2
            refine ⟨p, _, 1, 1, rfl, rfl, hh, rfl, ?_⟩
            have q := pen_upd (v := [.ref l, .int n, .int st2.left]) (st' := { st2 with at_ := n.toNat }) p2 hp ⟨ok.1, ok.2.1, ok.2.2⟩ rfl fun l' z => by
              rw [hh] at z
              cases z
              show [V.ref l, V.int n, V.int st2.left] = [V.ref l, V.int (n.toNat : Nat), V.int st2.left]
              rw [en]
            exact h2 σ _ q.2 q.1 (e2.go q.2)
          · rw [if_neg h3] at h2
            by_cases h4 : i = 2
            · subst h4
              rw [if_pos rfl] at h2
              refine ⟨p, _, 2, 2, rfl, rfl, hh, rfl, ?_⟩
              have q := pen_upd (v := [.ref l, .int st2.at_, .int n]) (st' := { st2 with left := n.toNat }) p2 hp ⟨ok.1, ok.2.1, hn.2⟩ rfl fun l' z => by
                rw [hh] at z
                cases z
                show [V.ref l, V.int st2.at_, V.int n] = [V.ref l, V.int st2.at_, V.int (n.toNat : Nat)]
                rw [en]
              exact h2 σ _ q.2 q.1 (e2.go q.2)
            · rw [if_neg h4] at h2
              exact h2.elim
        · rw [if_neg hn] at h2
          exact h2.elim
      | _ => exact h2.elim
    | _ => exact h2.elim
end
end DL

set_option Elab.async false
set_option linter.all false
set_option maxRecDepth 100000
set_option maxHeartbeats 4000000
namespace DL
open PySem L2 PySem.W

/-! ### the end: the law is called -/
theorem cx_false {P : Program} {w : World} {fs : List Env} {H : Hp} {s s' : Shared} {u : Value} (h : CX P w fs H s (fun _ _ _ => False) u s') : False := by
  obtain ⟨_, _, _, _, _, _, _, _, _, _, _, _, z⟩ := h
  exact z
section
variable {P : Program} {w : World} {K : Frag} {mg mb : Str → Option Value} {k : Nat} {fa a : Addr} {fd : FuncData} {x : Str} {sp : Sp} {s : Shared} {vs : List Value} {ns : List Int}
/-- an abstract heap that knows at most the script -/
structure Start (P : Program) (w : World) (K : Frag) (a : Addr) (ns : List Int) (s : Shared) (H : Hp) : Prop where
  only : ∀ b u, H b = some u → b = a ∧ ∃ o xs, u = .frz o (.lst xs)
  sq : SqL K H a (ns.map V.int)
  ok : HOk P w H s.heap
  apart : H a ≠ none → K.lookup a = none
theorem start_of (KX : K.In s.heap) (ha : s.heap.get? a = some { cls := .type "list", data := .seq vs.toArray }) (hi : PyProof.Rows.IntsAre vs ns) (hl : ns.length ≤ sizeLine) : ∃ H, Start P w K a ns s H := by
  have rv := vals_ints hi
  cases hk : K.lookup a with
  | some o =>
    have z := (KX a o hk).symm.trans ha
    cases z
    refine ⟨fun _ => none, (fun b u z => nomatch z), .inr ⟨_, vs.toArray, _, hk, rfl, rfl, rfl, ?_, by simpa using rv⟩, (fun b u z => nomatch z), fun z => absurd rfl z⟩
    rw [List.size_toArray, hi.length]
    exact hl
  | none =>
    have e1 : ∀ b, b ≠ a → (if b = a then some (HO.frz { cls := .type "list", data := .seq vs.toArray } (.lst (ns.map V.int))) else none) = none := fun b hb => if_neg hb
    refine ⟨fun b => if b = a then some (.frz { cls := .type "list", data := .seq vs.toArray } (.lst (ns.map V.int))) else none, fun b u z => ?_, .inl (.inr ⟨_, if_pos rfl⟩), fun b u z => ?_, fun _ => hk⟩
    · by_cases hb : b = a
      · subst hb
        have z2 := (if_pos rfl).symm.trans z
        exact ⟨rfl, _, _, (Option.some.inj z2).symm⟩
      · have z2 := (e1 b hb).symm.trans z
        cases z2
    · by_cases hb : b = a
      · subst hb
        have z2 := Option.some.inj ((if_pos rfl).symm.trans z)
        subst z2
        exact ⟨ha, by rw [List.length_map]; exact hl, vs, 0, rv, ha⟩
      · have z2 := (e1 b hb).symm.trans z
        cases z2
/-- the heap behind the top without the script: what all defs stand on -/
theorem start_mod {H : Hp} (S : Start P w K a ns s H) (ha : s.heap.get? a = some { cls := .type "list", data := .seq vs.toArray }) (KX : K.In s.heap) (G : s.heap.Ns mainGlobals mg) (B : s.heap.Ns builtinsNs mb) (bb : ∀ x : Str, x ≠ "__name__" → mb x = bootBuiltins x) (nl : s.heap.NoLimit) : Mod K mg (hidT s.heap H) := by
  have keepN : ∀ {b : Addr} {m : Str → Option Value}, s.heap.Ns b m → (hidT s.heap H).Ns b m := fun {b m} n => by
    obtain ⟨o, es, ep, e1, e2, e3⟩ := n
    refine ⟨o, es, ep, hidT_get e1 ?_, e2, e3⟩
    cases z : H b with
    | none => rfl
    | some u =>
      obtain ⟨rfl, _⟩ := S.only b u z
      rw [ha] at e1
      cases e1
      cases e2
  refine ⟨fun b o e => hidT_get (KX b o e) ?_, keepN G, ⟨mb, keepN B, bb⟩, ?_⟩
  · cases z : H b with
    | none => rfl
    | some u =>
      obtain ⟨rfl, _⟩ := S.only b u z
      rw [S.apart (by rw [z]; exact fun y => nomatch y)] at e
      cases e
  · obtain ⟨mc, c1, c2⟩ := nl
    exact ⟨mc, keepN c1, c2⟩
theorem callG (KX : K.In s.heap) (G : s.heap.Ns mainGlobals mg) (B : s.heap.Ns builtinsNs mb) (bb : ∀ x : Str, x ≠ "__name__" → mb x = bootBuiltins x) (nl : s.heap.NoLimit) (gn : s.gens = #[]) (ha : s.heap.get? a = some { cls := .type "list", data := .seq vs.toArray })
    (hi : PyProof.Rows.IntsAre vs ns) (hl : ns.length ≤ sizeLine) (hr : RoomG k callerA) (F : ∀ base : Heap, K.In base → base.Ns mainGlobals mg → FnG P w K mg base k fa fd [x] sp) (hb : ∀ (s : Shared) (u : Value), BindsTo s fd ⟨[u], []⟩ [(x, u)])
    (hsp : ∀ H, SqL K H a (ns.map V.int) → sp [.ref a] H (fun v _ => v = .bl true) (fun _ _ _ => False)) :
    codeAny (model P w) callerA (.call (.ref fa) ⟨[.ref a], []⟩) (fun r s' => r = .ok (.ret (.bool true)) ∧ OldK s.heap s'.heap ∧ s'.os = s.os ∧ PyProof.Rows.AllBare s'.gens) s := by
  obtain ⟨H, S⟩ := start_of (P := P) (w := w) KX ha hi hl
  have M := start_mod S ha KX G B bb nl
  have e0 : Env0 P w K mg (hidT s.heap H) callerA [] s H := ⟨rfl, M, fun b o e => of_hidT e, Nat.le_of_eq (hidT_size _ _), trivial, (fun b z => by cases z), S.ok, .of_eq gn⟩
  refine codeAny_mono ((F _ M.kin M.glob).run callerA [] s H ⟨[.ref a], []⟩ [.ref a] [.ref a] _ _ hr e0 (hb s (.ref a)) (.cons rfl .nil) (hsp H S.sq)) fun r s' h => ?_
  cases r with
  | error e => exact (cx_false h).elim
  | ok fl =>
    cases fl with
    | ret u =>
      obtain ⟨v, H', os, bare, un, hok', rv, q⟩ := h
      have q : v = .bl true := q
      subst q
      cases (show u = Value.bool true from rv)
      refine ⟨rfl, OldK.of_keep fun b o e => ?_, os, bare⟩
      cases z : H b with
      | none => exact un.keep b o e z (fun y => by cases y) (fun y => by cases y)
      | some u =>
        obtain ⟨rfl, ob, xs, rfl⟩ := S.only b u z
        have z2 := un.frzs _ ob _ z
        have e1 := (S.ok _ _ z).1
        have e2 := (hok' _ _ z2).1
        rw [e] at e1
        cases e1
        exact e2
    | next => exact h.elim
    | brk => exact h.elim
    | cont => exact h.elim
end
theorem bits_lt {z : Int} (h : Builtin.Int.intBits z ≤ 1048576) : Big 1 z.natAbs := by
  unfold Builtin.Int.intBits at h
  show z.natAbs < 2 ^ (1048576 + 1)
  by_cases hz : z = 0
  · rw [hz]
    exact Nat.pow_pos (by decide)
  · have hb : (z == 0) = false := by simpa using hz
    rw [hb, if_neg (by decide)] at h
    have h0 : z.natAbs ≠ 0 := by omega
    exact Nat.lt_of_lt_of_le ((Nat.log2_lt h0).mp (Nat.lt_succ_self _)) (Nat.pow_le_pow_right (by decide) (by omega))
/-- the goal that the head leaves, by the law's promise -/
theorem walkG {l : OpenLaw} {k : Nat} {q : Program} {loose : List Str} {XP : (Str → Option Value) → Heap → Prop} {YP : World → Heap → Prop} {d : DefRec} {K : Params → Frag} {sp : World → Sp} {x : Str} (hn : l.most = some 63) (hdf : d.params.defaults = []) (hr : RoomG k callerA)
    (hY : ∀ (w : World) (h : Heap), YP w h → (K w.params).In h)
    (F : ∀ (w : World) (mg : Str → Option Value) (fa : Addr) (h : Heap), (K w.params).In h → h.Ns mainGlobals mg → mg d.name = some (.ref fa) → ∃ fd : FuncData, (∀ (s : Shared) (u : Value), BindsTo s fd ⟨[u], []⟩ [(x, u)]) ∧
      ∀ base : Heap, (K w.params).In base → base.Ns mainGlobals mg → FnG l.prog w (K w.params) mg base k fa fd [x] (sp w))
    (hsp : ∀ (w : World) (H : Hp) (a : Addr) (ns : List Int), ns.length ≤ 63 → (∀ z ∈ ns, Big 1 z.natAbs) → SqL (K w.params) H a (ns.map V.int) → sp w [.ref a] H (fun v _ => v = .bl true) fun _ _ _ => False) :
    WalkO q loose XP YP l.row.toRowW d [] (fun f vs => PySem.call f vs) := by
  refine Att.attach_callB hn hdf fun w s₀ s₁ mg mb fa o pm cd doc a vs ns G Y ho hd hcd hmg hobj hints hlen hbits hg => ?_
  obtain ⟨fd, hb, hF⟩ := F w mg fa _ (hY w _ Y) G.T.g hmg
  exact callG (hY w _ Y) G.T.g G.T.b G.T.builtins G.T.nolimit hg hobj hints (Nat.le_trans hlen (by decide)) hr hF hb fun H hS => hsp w H a ns hlen (fun z hz => bits_lt (hbits z hz)) hS
end DL

set_option Elab.async false
set_option linter.all false
set_option maxRecDepth 100000
set_option maxHeartbeats 4000000
namespace DL
open PySem L2 PySem.W PySem.HandSPX

/-! ### what the written part tells of classes, as one test -/
def eqs {α : Type} [DecidableEq α] (a b : α) : Bool := decide (a = b)
theorem eqs_of {α : Type} [DecidableEq α] {a b : α} (h : eqs a b = true) : a = b := of_decide_eq_true h
theorem and_of {a b : Bool} (h : (a && b) = true) : a = true ∧ b = true := Bool.and_eq_true_iff.mp h
def oexChk1 (K : Frag) (C : Addr) : Bool := match K.lookup C with
  | some ⟨.type "type", _, .cls cd, sl⟩ => (match cd.mro, sl.toList with
    | .ref C' :: bm, [_, _, _, _, some (.builtin n), _] => eqs C' C && (eqs n "ValueError.__new__" && (cd.hasDict && (!cd.hasDel && refsVE bm)))
    | _, _ => false)
  | _ => false
theorem oex1_of {K : Frag} {C : Addr} (h : oexChk1 K C = true) : ∃ nm q N bs bm sn sub ab col dd k0 k1 k2 k3 k5, K.lookup C = some (excClassObj nm q C N bs bm true sn sub ab col dd k0 k1 k2 k3 k5 "ValueError.__new__") ∧ refsVE bm = true := by
  unfold oexChk1 at h
  split at h
  · rename_i dd cd sl hl
    split at h
    · rename_i C' bm k0 k1 k2 k3 n k5 e1 e2
      obtain ⟨h1, h⟩ := and_of h
      obtain ⟨h2, h⟩ := and_of h
      obtain ⟨h3, h⟩ := and_of h
      obtain ⟨h4, h5⟩ := and_of h
      have h1 := eqs_of h1
      have h2 := eqs_of h2
      subst h1 h2
      obtain ⟨nm, bs, mro, N, q, hd, sn, sub, ab, col, del⟩ := cd
      obtain ⟨sl⟩ := sl
      simp only at e1 e2 h3 h4
      subst e1 e2 h3
      cases del with
      | true => cases h4
      | false => exact ⟨nm, q, N, bs, bm, sn, sub, ab, col, dd, k0, k1, k2, k3, k5, hl, h5⟩
    · cases h
  · cases h
def oexChk (K : Frag) (C : Addr) : Bool := oexChk1 K C && (eqs (findIn K (.ref C) "__setattr__") (some (some (.builtin "object.__setattr__"))) && (eqs (subIn K (.ref C) (.type "BaseException")) (some true) && (eqs (typeIn K (.ref C)) (some (.type "type")) && keepIn K (.ref C))))
theorem oex_of {K : Frag} {C : Addr} (h : oexChk K C = true) : OexC K C := by
  obtain ⟨h1, h⟩ := and_of h
  obtain ⟨h2, h⟩ := and_of h
  obtain ⟨h3, h⟩ := and_of h
  obtain ⟨h4, h5⟩ := and_of h
  exact ⟨oex1_of h1, eqs_of h2, eqs_of h3, eqs_of h4, h5⟩
def fileChk (P : Program) (K : Frag) (cda : Addr) : Bool := match K.lookup cda with
  | some ⟨_, _, .fields vs, _⟩ => (match (vs[2]? : Option Value) with | some (Value.str file _) => (P.main.file : Str) == file | _ => false)
  | _ => false
def cellChk (K : Frag) (cc C : Addr) : Bool := match K.lookup cc with
  | some ⟨_, _, .cell (some v), _⟩ => eqs v (.ref C)
  | _ => false
/-- of an exception class with its own __init__ at f: code at cda, cell at cc -/
def xcChk (P : Program) (K : Frag) (C f cda cc : Addr) (qual : Str) (ps : List Str) : Bool :=
  oexChk K C && (eqs (findIn K (.ref C) "__init__") (some (some (.ref f))) && (eqs (typeIn K (.ref f)) (some (.type "function")) && (codeIn K (.ref cda) qual && (fileChk P K cda && (cellChk K cc C && (eqs (ks_superIn K C C "__init__") (some (some (.builtin "ValueError.__init__"))) &&
    (eqs (nsIn K cStatics "thirdparty.any") (some none) && (eqs (subIn K (.ref C) (.type "ValueError")) (some true) && (eqs (mroIn K C (.ref C)) (some true) && ps.all fun x => eqs (findIn K (.ref C) x) (some none))))))))))
theorem xck_of {P : Program} {K : Frag} {C f cda cc : Addr} {qual : Str} {ps : List Str} {st : Stmt} {oc : Value} {od an : Option Addr} {osl : Array (Option Value)} {kV doc pm ct : Value} (h : xcChk P K C f cda cc qual ps = true)
    (l : K.lookup f = some ⟨oc, od, .func (ksFn "__init__" qual (defArgs st) (defBody st) (defScope st) .none kV doc pm an (.ref cda) ct cc), osl⟩) (top : (P.main.scope.names.lookup ("super" : Str)).isSome = false)
    (sc : (defScope st).kind = .function ∧ (defScope st).isCoroutine = false ∧ (defScope st).isGenerator = false ∧ (∀ x ∈ (defScope st).names, x.2 ≠ .cell) ∧ (defScope st).names.lookup ("super" : Str) = some .globalImplicit ∧
      (defScope st).names.lookup ("__class__" : Str) = some .free ∧ (defScope st).names.lookup ("self" : Str) = some .local ∧ ∀ x ∈ ps, (defScope st).names.lookup x = some .local)
    (hd : ∃ ar : Arg, ((defArgs st).posonlyargs ++ (defArgs st).args).head? = some ar ∧ ar.arg = ("self" : Str)) : XcK P K C f st ps := by
  obtain ⟨h1, h⟩ := and_of h
  obtain ⟨h2, h⟩ := and_of h
  obtain ⟨h3, h⟩ := and_of h
  obtain ⟨h4, h⟩ := and_of h
  obtain ⟨h5, h⟩ := and_of h
  obtain ⟨h6, h⟩ := and_of h
  obtain ⟨h7, h⟩ := and_of h
  obtain ⟨h8, h⟩ := and_of h
  obtain ⟨h9, h⟩ := and_of h
  obtain ⟨h10, h11⟩ := and_of h
  refine ⟨oex_of h1, eqs_of h2, eqs_of h3, ⟨oc, od, qual, kV, doc, pm, an, cda, cc, ct, osl, l, h4, ?_, ?_⟩, eqs_of h7, eqs_of h8, eqs_of h9, eqs_of h10, fun x hx => eqs_of (List.all_eq_true.mp h11 x hx), top, sc, hd⟩
  · unfold fileChk at h5
    split at h5
    · rename_i a1 a2 vs a3 hl
      split at h5
      · rename_i file tf e
        exact ⟨_, _, _, _, file, tf, hl, e, h5⟩
      · cases h5
    · cases h5
  · unfold cellChk at h6
    split at h6
    · rename_i a1 a2 v a3 hl
      have z := eqs_of h6
      subst z
      exact ⟨_, _, _, hl⟩
    · cases h6
/-- reading a field, isinstance -/
def xfChk (K : Frag) (C : Addr) : Bool := eqs (findIn K (.ref C) "__getattribute__") (some (some (.builtin "BaseException.__getattribute__"))) && (eqs (findIn K (.ref C) "__getattr__") (some none) && (eqs (subIn K (.ref C) (.type "BaseException")) (some true) && (hasDictIn K C &&
  ((clsIn K C).isSome && (eqs (findIn K (.ref C) "__class__") (some (some (.builtin "object.__class__"))) && (eqs (specialIn K (.builtin "object.__class__") "__get__") (some (some (.builtin "getset_descriptor.__get__"))) && (eqs (takesIn K (.builtin "object.__class__")) (some true) && eqs (mroIn K C (.type "object")) (some true))))))))
theorem xf_of {K : Frag} {C : Addr} (h : xfChk K C = true) : XfC K C ∧ ExiC K C := by
  obtain ⟨h1, h⟩ := and_of h
  obtain ⟨h2, h⟩ := and_of h
  obtain ⟨h3, h⟩ := and_of h
  obtain ⟨h4, h⟩ := and_of h
  obtain ⟨h5, h⟩ := and_of h
  obtain ⟨h6, h⟩ := and_of h
  obtain ⟨h7, h⟩ := and_of h
  obtain ⟨h8, h9⟩ := and_of h
  exact ⟨⟨eqs_of h1, eqs_of h2, eqs_of h3, h4⟩, h5, eqs_of h1, eqs_of h2, eqs_of h3, eqs_of h6, eqs_of h7, eqs_of h8, eqs_of h9⟩

/-! ### __init__ made a rule: by position, by keywords -/
section
variable {P : Program} {w : World} {K : Frag} {C f : Addr} {st : Stmt} {mg : Str → Option Value} {x x2 : Str} {p0 p1 p2 p3 p4 p5 p6 q0 q1 q2 q3 r0 r1 r2 r3 : Pos}
abbrev eCall (es : List Expr) (p0 p1 p2 p3 : Pos) : Expr := .Call (.Attribute (.Call (.Name "super" p0) [] [] p1) "__init__" p2) es [] p3
def hCallT (st : Stmt) (f : Addr) (es : List Expr) (p0 p1 p2 p3 : Pos) : Prop := ∀ (qual : Str) (L cda cc : Addr), ∃ pl : Sem Bool, eval (eCall es p0 p1 p2 p3) (ksEnv qual (defScope st) L f (.ref cda) cc) = (do
      let ov ← attributeBase (.Call (.Name "super" p0) [] [] p1) "__init__" (ksEnv qual (defScope st) L f (.ref cda) cc) (eval (.Call (.Name "super" p0) [] [] p1) (ksEnv qual (defScope st) L f (.ref cda) cc))
      standAt p2.atName
      let (fv, first) ← holding [ov] (getMethod ov "__init__" pl)
      callWith p3 fv first (backTo p3 (starEach es (ksEnv qual (defScope st) L f (.ref cda) cc))) [])
/-- how a form of arguments meets the parameters -/
def hBindT (st : Stmt) (ps : List Str) (fm : List Value → List Value × List (Str × Value)) : Prop := ∀ (s : Shared) (e : Addr) (vs : List Value) (qual : Str) (kV doc pm : Value) (an : Option Addr) (cd ct : Value) (cc : Addr), vs.length = ps.length →
  BindsTo s (ksFn "__init__" qual (defArgs st) (defBody st) (defScope st) .none kV doc pm an cd ct cc) ⟨.ref e :: (fm vs).1, (fm vs).2⟩ (("self", .ref e) :: ps.zip vs)
theorem ini1 {fm : List Value → List Value × List (Str × Value)} (X : XcK P K C f st [x]) (gs : mg "super" = none)
    (hbody : defBody st = [.Expr (eCall [.Name x p5] p0 p1 p2 p3) p4, .Assign [.Attribute (.Name "self" q0) x q1] (.Name x q2) q3]) (hb : hBindT st [x] fm) (hc : hCallT st f [.Name x p5] p0 p1 p2 p3)
    (hsw : ∀ (qual : Str) (L cda cc : Addr), swapsWith (eCall [.Name x p5] p0 p1 p2 p3) none p4.line (ksEnv qual (defScope st) L f (.ref cda) cc) = pure false ∧
      swapsWith (.Name x q2) (some (.Attribute (.Name "self" q0) x q1)) q3.line (ksEnv qual (defScope st) L f (.ref cda) cc) = pure false)
    (hdb : (x == ("__debug__" : Str)) = false) (hxs : ("self" : Str) ≠ x) : IniR P w K mg C f [x] fm := by
  intro A h0 s e t0 mb vs R hl KX nl G B bb hr kk he hne hR
  match vs, hl with
  | [v], _ =>
    refine init1 X KX nl G gs B bb hr kk he hne hbody (fun qual kV doc pm an cd ct cc => hb s e [v] qual kV doc pm an cd ct cc rfl) hc hsw hdb hxs fun h' tk dx k1 k2 k3 k4 k5 => hR h' tk (some dx) ⟨k1, hne, k2, ?_, k4, k5⟩
    have z : (fun y => if y = x then some v else none) = fun y => (([x] : List Str).zip [v]).lookup y := by
      funext y
      by_cases hy : y = x
      · subst hy; simp [List.lookup]
      · have : (y == x) = false := by simpa using hy
        simp [List.lookup, this, hy]
    rw [← z]
    exact k3
theorem ini2 {fm : List Value → List Value × List (Str × Value)} (X : XcK P K C f st [x, x2]) (gs : mg "super" = none)
    (hbody : defBody st = [.Expr (eCall [.Name x p5, .Name x2 p6] p0 p1 p2 p3) p4, .Assign [.Attribute (.Name "self" q0) x q1] (.Name x q2) q3, .Assign [.Attribute (.Name "self" r0) x2 r1] (.Name x2 r2) r3]) (hb : hBindT st [x, x2] fm) (hc : hCallT st f [.Name x p5, .Name x2 p6] p0 p1 p2 p3)
    (hsw : ∀ (qual : Str) (L cda cc : Addr), swapsWith (eCall [.Name x p5, .Name x2 p6] p0 p1 p2 p3) none p4.line (ksEnv qual (defScope st) L f (.ref cda) cc) = pure false ∧
      swapsWith (.Name x q2) (some (.Attribute (.Name "self" q0) x q1)) q3.line (ksEnv qual (defScope st) L f (.ref cda) cc) = pure false ∧ swapsWith (.Name x2 r2) (some (.Attribute (.Name "self" r0) x2 r1)) r3.line (ksEnv qual (defScope st) L f (.ref cda) cc) = pure false)
    (hdb : (x == ("__debug__" : Str)) = false ∧ (x2 == ("__debug__" : Str)) = false) (hxs : ("self" : Str) ≠ x ∧ ("self" : Str) ≠ x2 ∧ x ≠ x2) : IniR P w K mg C f [x, x2] fm := by
  intro A h0 s e t0 mb vs R hl KX nl G B bb hr kk he hne hR
  match vs, hl with
  | [v, v2], _ =>
    refine init2 X KX nl G gs B bb hr kk he hne hbody (fun qual kV doc pm an cd ct cc => hb s e [v, v2] qual kV doc pm an cd ct cc rfl) hc hsw hdb hxs fun h' tk dx k1 k2 k3 k4 k5 => hR h' tk (some dx) ⟨k1, hne, k2, ?_, k4, k5⟩
    have z : (fun y => if y = x2 then some v2 else if y = x then some v else none) = fun y => (([x, x2] : List Str).zip [v, v2]).lookup y := by
      funext y
      by_cases hy : y = x
      · subst hy
        simp [List.lookup, hxs.2.2]
      · have h1 : (y == x) = false := by simpa using hy
        by_cases hy2 : y = x2
        · subst hy2
          simp [List.lookup, h1]
        · have h2 : (y == x2) = false := by simpa using hy2
          simp [List.lookup, h1, h2, hy, hy2]
    rw [← z]
    exact k3
theorem ini0 {fm : List Value → List Value × List (Str × Value)} (X : XcK P K C f st []) (gs : mg "super" = none)
    (hbody : defBody st = [.Expr (eCall [] p0 p1 p2 p3) p4]) (hb : hBindT st [] fm) (hc : hCallT st f [] p0 p1 p2 p3)
    (hsw : ∀ (qual : Str) (L cda cc : Addr), swapsWith (eCall [] p0 p1 p2 p3) none p4.line (ksEnv qual (defScope st) L f (.ref cda) cc) = pure false) : IniR P w K mg C f [] fm := by
  intro A h0 s e t0 mb vs R hl KX nl G B bb hr kk he hne hR
  match vs, hl with
  | [], _ => exact init0 X KX nl G gs B bb hr kk he hne hbody (fun qual kV doc pm an cd ct cc => hb s e [] qual kV doc pm an cd ct cc rfl) hc hsw fun h' tk k1 k2 => hR h' tk none ⟨k1, hne, k2, rfl⟩
end
/-- the forms: by position; one keyword; two, in the order or the other way round -/
abbrev fmP : List Value → List Value × List (Str × Value) := fun us => (us, [])
def fmK (ps : List Str) : List Value → List Value × List (Str × Value) := fun us => ([], ps.zip us)
def fmS (x x2 : Str) : List Value → List Value × List (Str × Value) := fun us => match us with
  | [v, v2] => ([], [(x2, v2), (x, v)])
  | _ => ([], [])
section
variable {X : Cx} {g : G} {m : Mw} {W : WX} {pos p : Pos} {c n k : Nat} {x : Str} {fa : FA} {kws : List Keyword} {ks : List Str}
/-- C(k = e, ..) in the fields' order -/
theorem d_excK1 (T : XcI X.prog X.w X.K X.mg (g.ct c) (g.fn c) (fmK (g.fn c))) (hr : RoomG k X.A) (hm : X.mg x = some (.ref (g.ct c))) (hn : (g.fn c).length = n) (ha : PK X kws (tDA g m W fa)) (hks : (backToKw pos (keywordEach kws X.env)).filterMap (·.1) = g.fn c := by rfl) (hg : Gl X x := by rfl) (hdb : (x == ("__debug__" : Str)) = false := by decide)
    (hall : (backToKw pos (keywordEach kws X.env)).all (·.1.isSome) = true := by rfl)
    (hpn : ((backTo pos (starEach [] X.env)).any (·.1) || (backToKw pos (keywordEach kws X.env)).any (·.1.isNone)) = false := by rfl) : PE X (.Call (.Name x p) [] kws pos) (tD g m W (fExc c n id fa)) :=
  d_excK (pm := id) (pv := id) (pu := id) (ks := g.fn c) T hr hm hn (fun us _ => rfl) (fun _ _ h => h) (fun _ _ _ _ h => h) (fun _ h => h) ha hg hdb hall hks hpn
def sw2 {α : Type} : List α → List α
  | [a, b] => [b, a]
  | l => l
theorem sw2_len {α : Type} (l : List α) : (sw2 l).length = l.length := by
  unfold sw2
  split
  · rfl
  · rfl
/-- C(k2 = e, k1 = e') -/
theorem d_excK2 {x1 x2 : Str} (hf : g.fn c = [x1, x2]) (T : XcI X.prog X.w X.K X.mg (g.ct c) (g.fn c) (fmS x1 x2)) (hr : RoomG k X.A) (hm : X.mg x = some (.ref (g.ct c))) (ha : PK X kws (tDA g m W fa)) (hks : (backToKw pos (keywordEach kws X.env)).filterMap (·.1) = [x2, x1] := by rfl) (hg : Gl X x := by rfl) (hdb : (x == ("__debug__" : Str)) = false := by decide)
    (hall : (backToKw pos (keywordEach kws X.env)).all (·.1.isSome) = true := by rfl)
    (hpn : ((backTo pos (starEach [] X.env)).any (·.1) || (backToKw pos (keywordEach kws X.env)).any (·.1.isNone)) = false := by rfl) : PE X (.Call (.Name x p) [] kws pos) (tD g m W (fExc c 2 sw2 fa)) := by
  refine d_excK (pm := sw2) (pv := sw2) (pu := sw2) (ks := [x2, x1]) T hr hm (by rw [hf]; rfl) (fun us hu => ?_) (fun vs us h => ?_) (fun m H ds vs h => ?_) (fun ds h => by rw [← sw2_len ds]; exact h) ha hg hdb hall hks hpn
  · match us, hu with
    | [a, b], _ => rfl
  · cases h with
    | nil => exact .nil
    | cons a h => cases h with
      | nil => exact .cons a .nil
      | cons b h => cases h with
        | nil => exact .cons b (.cons a .nil)
        | cons c h => exact .cons a (.cons b (.cons c h))
  · match ds, vs, h with
    | [], _, h => cases h; exact rfl
    | [a], _, ⟨v, _, rfl, r, h⟩ => cases h; exact ⟨v, [], rfl, r, rfl⟩
    | [a, b], _, ⟨v, _, rfl, r, v2, _, rfl, r2, h⟩ => cases h; exact ⟨v2, [v], rfl, r2, v, [], rfl, r, rfl⟩
    | a :: b :: c :: ds, _, ⟨v, _, rfl, r, v2, _, rfl, r2, v3, vs, rfl, r3, h⟩ => exact ⟨v, v2 :: v3 :: vs, rfl, r, v2, v3 :: vs, rfl, r2, v3, vs, rfl, r3, h⟩
end
/-! ### small words -/
theorem tk0 {X : Cx} : Takes X W0 := fun u s' h => by
  obtain ⟨_, _, _, _, _, _, _, _, _, _, _, _, _, _, _, _, z⟩ := h
  exact False.elim z
theorem flen_nil : ∀ ρ st ds st', fNil ρ st = .ok ds st' → ds.length = 0 := fun ρ st ds st' h => by cases h; rfl
theorem flen_cons {f : F} {fa : FA} {n : Nat} (h : ∀ ρ st ds st', fa ρ st = .ok ds st' → ds.length = n) : ∀ ρ st ds st', fCons f fa ρ st = .ok ds st' → ds.length = n + 1 := fun ρ st ds st' e => by
  unfold fCons at e
  cases e1 : f ρ st with
  | ok d st1 =>
    rw [e1] at e
    dsimp only [R.bind] at e
    cases e2 : fa ρ st1 with
    | ok ds2 st2 =>
      rw [e2] at e
      cases e
      simp [h _ _ _ _ e2]
    | err => rw [e2] at e; cases e
    | bad => rw [e2] at e; cases e
  | err => rw [e1] at e; cases e
  | bad => rw [e1] at e; cases e
end DL

set_option Elab.async false
set_option linter.all false
set_option maxRecDepth 100000
set_option maxHeartbeats 4000000
namespace DL
open PySem L2 PySem.W

/-! ### a def's body by its mirror; what a caller needs of a def -/
def Body (P : Program) (w : World) (K : Frag) (mg : Str → Option Value) (base : Heap) (g : G) (k : Nat) (N : List Str) (qual : Str) (st : Stmt) (fs : FS) : Prop :=
  ∀ (f : Addr) (m : Mw) (cdv : Value) (A : Around) (fr : List Env) (s : Shared) (H : Hp) (E : XK), RoomG k (A.deeper (PyProof.Rows.envOfC qual (defScope st) s.heap.objs.size f cdv)) →
      Takes (cxOf (CX P w) P w K mg base N qual (defScope st) f cdv A fr s H E) (fun c d _ H' => E c d H') →
      PassesOwn (model P w) (A.deeper (PyProof.Rows.envOfC qual (defScope st) s.heap.objs.size f cdv)) (PyProof.Rows.envOfC qual (defScope st) s.heap.objs.size f cdv) (cxOf (CX P w) P w K mg base N qual (defScope st) f cdv A fr s H E).xe →
      PSs (cxOf (CX P w) P w K mg base N qual (defScope st) f cdv A fr s H E) (defBody st) (tDS g m (fun c d _ H' => E c d H') fs)
/-- the name x stands for a def that keeps its promise -/
structure Cal (P : Program) (w : World) (K : Frag) (mg : Str → Option Value) (base : Heap) (k : Nat) (x : Str) (ps : List Str) (sp : Sp) : Prop where
  ex : ∃ (f : Addr) (fd : FuncData), FnG P w K mg base k f fd ps sp ∧ mg x = some (.ref f) ∧ keepIn K (.ref f) = true ∧ Binds K fd ps []
section
variable {P : Program} {w : World} {K : Frag} {mg : Str → Option Value} {base : Heap} {g : G}
theorem Body.fn {x qual : Str} {st : Stmt} {f : Addr} {fd : FuncData} {N ps : List Str} {k : Nat} {fs : FS} (B : Body P w K mg base g k N qual st fs) (F : Fun K x qual st f fd) (S : FnScope N ps (defScope st)) : FnG P w K mg base (k + 1) f fd ps (SpD g ps.length (mir ps.length N.length fs)) :=
  fnD F S fun m cdv A fr s H E hr tk po => B f m cdv A fr s H E hr tk po
theorem Body.cal {x qual : Str} {st : Stmt} {f : Addr} {fd : FuncData} {N ps : List Str} {k n : Nat} {fs : FS} (B : Body P w K mg base g k N qual st fs) (F : Fun K x qual st f fd) (hb : Binds K fd ps []) (hm : mg x = some (.ref f)) (S : FnScope N ps (defScope st)) (hn : ps.length = n) : Cal P w K mg base (k + 1) x ps (SpD g n (mir n N.length fs)) := by
  subst hn
  exact ⟨f, fd, B.fn F S, hm, F.kp, hb⟩
end
section
variable {X : Cx} {g : G} {m : Mw} {W : WX} {pos p : Pos} {k n : Nat} {ps : List Str} {x : Str} {e : Expr} {es : List Expr} {fa : FA} {mf : List D → Pn → R D}
theorem d_callC (C : Cal X.prog X.w X.K X.mg X.base k x ps (SpD g n mf)) (hr : RoomG k X.A) (tk : Takes X W) (hl : es.length + 1 = n)
    (ha : PA X (e :: es) (tDA g m W fa)) (hlen : ∀ ρ st ds st', fa ρ st = .ok ds st' → ds.length = es.length + 1) (hg : Gl X x := by rfl) (hdb : (x == ("__debug__" : Str)) = false := by decide)
    (he : starEach (e :: es) X.env = (false, eval e X.env) :: starEach es X.env := by rfl) (hpl : (backTo pos (starEach es X.env)).any (·.1) = false := by rfl) : PE X (.Call (.Name x p) (e :: es) [] pos) (tD g m W (fCall mf fa)) := by
  obtain ⟨f, fd, F, hm, hk, hb⟩ := C.ex
  exact d_call F hr tk hm hk hb hl ha hlen hg hdb he hpl
/-- a class by its name -/
theorem d_cls (c : Nat) {x : Str} (hm : X.mg x = some (.ref (g.ct c))) (hg : Gl X x := by rfl) (hd : (x == ("__debug__" : Str)) = false := by decide) : PE X (.Name x pos) (tD g m W (fC (.cls c))) :=
  d_glob (v := .ref (g.ct c)) hg hm rfl (fun _ => rfl) hd
theorem d_ty (n : String) {x : Str} (hm : X.mg x = none) (hv : bootBuiltins x = some (.type n)) (hg : Gl X x := by rfl) (hn : x ≠ "__name__" := by decide) (hd : (x == ("__debug__" : Str)) = false := by decide) : PE X (.Name x pos) (tD g m W (fC (.ty n))) :=
  d_bltn (v := .ty n) hg hm hv rfl (fun _ => rfl) hn hd
end
end DL

set_option Elab.async false
set_option linter.all false
set_option maxRecDepth 100000
set_option maxHeartbeats 4000000
namespace DL
open PySem L2 PySem.W

/-! ### the laws' draw -/
abbrev fInt (f : F) : F := fCB cInt (fCons f fNil)
abbrev fLen (f : F) : F := fCB cLen (fCons f fNil)
abbrev fAbs (f : F) : F := fCB cAbs (fCons f fNil)
abbrev fN (i : Int) : F := fC (.int i)
def fDrawA : FS := fSeq (fSet (gN 5) (fOp oMod (fInt (fPen 2 (fVar 0))) (fVar 1))) (fSeq (fPenSet 2 (fOp oDiv (fInt (fPen 2 (fVar 0))) (fVar 1)) (fVar 0)) (fRet (fVar 5)))
def fDrawB : FS := fSeq (fSet (gN 6) (fOp oAdd (fOp oMul (fN 2) (fOp oSub (fAbs (fVar 3)) (fOp oPow (fN 10) (fN 18)))) (fInt (fOp (oCmp fun i j => decide (i < j)) (fVar 3) (fN 0)))))
  (fSeq (fPenSet 2 (fOp oDiv (fInt (fVar 6)) (fVar 1)) (fVar 0)) (fRet (fOp oMod (fInt (fVar 6)) (fVar 1))))
def fDrawC (p1 c3 c4 p2 c5 c6 c7 p3 : Int) : FS :=
  fSeq (fSet (gN 4) (fOp oMod (fInt (fOp oPow (fOp oAdd (fOp oAdd (fOp oMod (fInt (fVar 3)) (fN p1)) (fOp oMul (fN c3) (fVar 2))) (fN c4)) (fN 5))) (fN p2)))
  (fSeq (fSet (gN 4) (fOp oMod (fInt (fOp oPow (fOp oAdd (fOp oAdd (fOp oMul (fVar 4) (fOp oAdd (fOp oMul (fN 2) (fVar 2)) (fN c5))) (fOp oMul (fOp oMul (fN c6) (fVar 2)) (fVar 2))) (fN c7)) (fN 3))) (fN p3)))
  (fRet (fOp oMod (fInt (fOp oDiv (fVar 4) (fN 32))) (fVar 1))))
def fDraw (c1 c2 p1 c3 c4 p2 c5 c6 c7 p3 : Int) : FS :=
  fSeq (fIfS (fB (fOp (oCmp fun i j => decide (j < i)) (fPen 2 (fVar 0)) (fN 0))) fDrawA fNext)
  (fSeq (fSet (gN 2) (fPen 1 (fVar 0)))
  (fSeq (fPenSet 1 (fOp oAdd (fVar 2) (fN 1)) (fVar 0))
  (fSeq (fSet (gN 3) (fOp oAdd (fOp oMul (fN c1) (fVar 2)) (fN c2)))
  (fSeq (fIfS (fB (fOp oNe (fPen 0 (fVar 0)) (fLst fNil))) (fSet (gN 3) (fOp oIx (fPen 0 (fVar 0)) (fOp oMod (fInt (fVar 2)) (fLen (fPen 0 (fVar 0)))))) fNext)
  (fSeq (fIfS (fAndT (fB (fOp (oCmp fun i j => decide (i < j)) (fVar 2) (fLen (fPen 0 (fVar 0))))) (fB (fOp (oCmp fun i j => decide (j ≤ i)) (fAbs (fVar 3)) (fOp oPow (fN 10) (fN 18))))) fDrawB fNext)
  (fDrawC p1 c3 c4 p2 c5 c6 c7 p3))))))
def drawM (c1 c2 p1 c3 c4 p2 c5 c6 c7 p3 : Int) : List D → Pn → R D := mir 2 7 (fDraw c1 c2 p1 c3 c4 p2 c5 c6 c7 p3)

theorem fSeq_nx {f k : FS} {ρ ρ' : Ev} {st st' : Pn} (h : f ρ st = .nx ρ' st') : fSeq f k ρ st = k ρ' st' := by
  unfold fSeq
  rw [h]
theorem fSeq_rt {f k : FS} {ρ : Ev} {st st' : Pn} {d : D} (h : f ρ st = .rt d st') : fSeq f k ρ st = .rt d st' := by
  unfold fSeq
  rw [h]
theorem fIfS_of {t : FT} {f k : FS} {ρ : Ev} {st st' : Pn} {b : Bool} (h : t ρ st = .ok b st') : fIfS t f k ρ st = if b then f ρ st' else k ρ st' := by
  unfold fIfS
  rw [h]
  rfl
theorem fSet_of {i : Nat} {f : F} {ρ : Ev} {st st' : Pn} {d : D} (h : f ρ st = .ok d st') : fSet (gN i) f ρ st = .nx (ρ.set i (some d)) st' := by
  unfold fSet
  rw [h]
  rfl
theorem fRet_of {f : F} {ρ : Ev} {st st' : Pn} {d : D} (h : f ρ st = .ok d st') : fRet f ρ st = .rt d st' := by
  unfold fRet
  rw [h]
  rfl
theorem fPenSet_of {i : Int} {fe fa : F} {ρ : Ev} {st st1 st2 : Pn} {n : Int} (h : fe ρ st = .ok (.int n) st1) (h2 : fa ρ st1 = .ok .pen st2) (hn : 0 ≤ n ∧ Big 4 n.toNat) : fPenSet i fe fa ρ st = (if i = 1 then .nx ρ { st2 with at_ := n.toNat } else if i = 2 then .nx ρ { st2 with left := n.toNat } else .bad) := by
  unfold fPenSet
  rw [h]
  dsimp only [R.to]
  rw [h2]
  dsimp only [R.to]
  rw [if_pos hn]
theorem fOp_of {o : D → D → RD} {fa fb : F} {ρ : Ev} {st st1 st2 : Pn} {a b d : D} (h1 : fa ρ st = .ok a st1) (h2 : fb ρ st1 = .ok b st2) (h : o a b = .ok d) : fOp o fa fb ρ st = .ok d st2 := by
  unfold fOp
  rw [h1]
  dsimp only [R.bind]
  rw [h2]
  dsimp only [R.bind]
  rw [h]
  rfl
theorem fCB1_of {o : List D → RD} {fa : F} {ρ : Ev} {st st1 : Pn} {a d : D} (h1 : fa ρ st = .ok a st1) (h : o [a] = .ok d) : fCB o (fCons fa fNil) ρ st = .ok d st1 := by
  unfold fCB fCons
  rw [h1]
  dsimp only [R.bind, fNil]
  rw [h]
  rfl
theorem fB_of {f : F} {ρ : Ev} {st st1 : Pn} {b : Bool} (h : f ρ st = .ok (.bl b) st1) : fB f ρ st = .ok b st1 := by
  unfold fB
  rw [h]
  rfl
theorem oMod_of {i j : Int} (h : 0 < j) : oMod (.int i) (.int j) = .ok (.int (i % j)) := if_pos h
theorem oDiv_of {i j : Int} (h : 0 < j) (h2 : j < 2 ^ 200) : oDiv (.int i) (.int j) = .ok (.int (i / j)) := if_pos ⟨h, h2⟩
theorem oMul_l {i j : Int} (h : i.natAbs < 2 ^ 64) : oMul (.int i) (.int j) = .ok (.int (i * j)) := if_pos (.inl h)
theorem oPow_of {i : Int} {j : Int} (h : 0 ≤ j) (h2 : j ≤ 1000) (h3 : i.natAbs < 2 ^ 64) : oPow (.int i) (.int j) = .ok (.int (i ^ j.toNat)) := if_pos ⟨h, h2, h3⟩
theorem Big.mono {b n m : Nat} (h : Big b n) (l : m ≤ n) : Big b m := Nat.lt_of_le_of_lt l h
theorem Big.up {b b' n : Nat} (h : Big b n) (l : b ≤ b') : Big b' n := Nat.lt_of_lt_of_le h (Nat.pow_le_pow_right (by decide) (by omega))
theorem big_small {b n : Nat} (h : n < 2 ^ 64) : Big b n := Nat.lt_of_lt_of_le h (Nat.pow_le_pow_right (by decide) (by omega))
theorem big_dbl {b n : Nat} (h : Big b n) : Big (b + 1) (2 * n + 1) := by
  have e : (2 : Nat) ^ (1048576 + (b + 1)) = 2 ^ (1048576 + b) * 2 := Nat.pow_succ ..
  unfold Big at *
  rw [e]
  omega
/-- what a draw leaves: a number below n, the pen a step on -/
def Drawn1 (st : Pn) (n : Int) (r : R D) : Prop := ∃ d st', r = .ok (.int d) st' ∧ 0 ≤ d ∧ d < n ∧ PenOk st' ∧ st'.xs = st.xs ∧ st'.at_ ≤ st.at_ + 1
theorem drawC_ok {p1 c3 c4 p2 c5 c6 c7 p3 n : Int} {st st0 : Pn} {at_ : Nat} {raw : Int} (hp1 : 0 < p1 ∧ p1 < 2 ^ 32) (hp2 : 0 < p2 ∧ p2 < 2 ^ 32) (hp3 : 0 < p3) (h3 : 0 ≤ c3 ∧ c3 < 2 ^ 20) (h4 : 0 ≤ c4 ∧ c4 < 2 ^ 20) (h5 : 0 ≤ c5 ∧ c5 < 2 ^ 20) (h6 : 0 ≤ c6 ∧ c6 < 2 ^ 20) (h7 : 0 ≤ c7 ∧ c7 < 2 ^ 20)
    (hn : 0 < n) (ha : at_ < 2 ^ 20) (ok : PenOk st) (hx : st.xs = st0.xs) (hat : st.at_ ≤ st0.at_ + 1) :
    Drawn1 st0 n (fDrawC p1 c3 c4 p2 c5 c6 c7 p3 [some .pen, some (.int n), some (.int at_), some (.int raw), none, none, none] st).out := by
  have ai : (0 : Int) ≤ at_ ∧ (at_ : Int) < 2 ^ 20 := ⟨by omega, by exact_mod_cast ha⟩
  generalize hA : (at_ : Int) = A at ai
  have m1 := Int.emod_nonneg raw (show p1 ≠ 0 by omega)
  have m2 := Int.emod_lt_of_pos raw hp1.1
  have b3 : 0 ≤ c3 * A := Int.mul_nonneg h3.1 ai.1
  have b3' : c3 * A ≤ 2 ^ 20 * 2 ^ 20 := Int.mul_le_mul (by omega) (by omega) ai.1 (by decide)
  have e1 : (fSet (gN 4) (fOp oMod (fInt (fOp oPow (fOp oAdd (fOp oAdd (fOp oMod (fInt (fVar 3)) (fN p1)) (fOp oMul (fN c3) (fVar 2))) (fN c4)) (fN 5))) (fN p2))) [some .pen, some (.int n), some (.int A), some (.int raw), none, none, none] st
      = .nx [some .pen, some (.int n), some (.int A), some (.int raw), some (.int ((raw % p1 + c3 * A + c4) ^ 5 % p2)), none, none] st :=
    fSet_of (fOp_of (fCB1_of (fOp_of (fOp_of (fOp_of (fOp_of (fCB1_of rfl rfl) rfl (oMod_of hp1.1)) (fOp_of rfl rfl (oMul_l (by omega))) rfl) rfl rfl) rfl (oPow_of (by decide) (by decide) (by omega))) rfl) rfl (oMod_of hp2.1))
  have n1 := Int.emod_nonneg ((raw % p1 + c3 * A + c4) ^ 5) (show p2 ≠ 0 by omega)
  have n2 := Int.emod_lt_of_pos ((raw % p1 + c3 * A + c4) ^ 5) hp2.1
  generalize (raw % p1 + c3 * A + c4) ^ 5 % p2 = s1 at e1 n1 n2
  have d1 : 0 ≤ s1 * (2 * A + c5) := Int.mul_nonneg n1 (by omega)
  have d2 : s1 * (2 * A + c5) ≤ 2 ^ 32 * 2 ^ 22 := Int.mul_le_mul (by omega) (by omega) (by omega) (by decide)
  have d3 : 0 ≤ c6 * A := Int.mul_nonneg h6.1 ai.1
  have d4 : c6 * A ≤ 2 ^ 20 * 2 ^ 20 := Int.mul_le_mul (by omega) (by omega) ai.1 (by decide)
  have d5 : 0 ≤ c6 * A * A := Int.mul_nonneg d3 ai.1
  have d6 : c6 * A * A ≤ 2 ^ 40 * 2 ^ 20 := Int.mul_le_mul (by omega) (by omega) ai.1 (by decide)
  have e2 : (fSet (gN 4) (fOp oMod (fInt (fOp oPow (fOp oAdd (fOp oAdd (fOp oMul (fVar 4) (fOp oAdd (fOp oMul (fN 2) (fVar 2)) (fN c5))) (fOp oMul (fOp oMul (fN c6) (fVar 2)) (fVar 2))) (fN c7)) (fN 3))) (fN p3))) [some .pen, some (.int n), some (.int A), some (.int raw), some (.int s1), none, none] st
      = .nx [some .pen, some (.int n), some (.int A), some (.int raw), some (.int ((s1 * (2 * A + c5) + c6 * A * A + c7) ^ 3 % p3)), none, none] st :=
    fSet_of (fOp_of (fCB1_of (fOp_of (fOp_of (fOp_of (fOp_of rfl (fOp_of (fOp_of rfl rfl (oMul_l (by decide))) rfl rfl) (oMul_l (by omega))) (fOp_of (fOp_of rfl rfl (oMul_l (by omega))) rfl (oMul_l (by omega))) rfl) rfl rfl) rfl (oPow_of (by decide) (by decide) (by omega))) rfl) rfl (oMod_of hp3))
  generalize (s1 * (2 * A + c5) + c6 * A * A + c7) ^ 3 % p3 = s2 at e2
  have e3 : (fRet (fOp oMod (fInt (fOp oDiv (fVar 4) (fN 32))) (fVar 1))) [some .pen, some (.int n), some (.int A), some (.int raw), some (.int s2), none, none] st = .rt (.int (s2 / 32 % n)) st :=
    fRet_of (fOp_of (fCB1_of (fOp_of rfl rfl (oDiv_of (by decide) (by decide))) rfl) rfl (oMod_of hn))
  unfold fDrawC
  rw [fSeq_nx e1, fSeq_nx e2, e3]
  exact ⟨_, st, rfl, Int.emod_nonneg _ (by omega), Int.emod_lt_of_pos _ hn, ok, hx, hat⟩
end DL

set_option Elab.async false
set_option linter.all false
set_option maxRecDepth 100000
set_option maxHeartbeats 4000000
namespace DL
open PySem L2 PySem.W

/-! ### lists of numbers: == -/
theorem plain_ints : ∀ xs : List Int, plainL (xs.map D.int) = true
  | [] => rfl
  | x :: xs => by
    show (true && plainL (xs.map D.int)) = true
    rw [plain_ints xs]
    rfl
theorem toPy_ints : ∀ xs : List Int, toPyL (xs.map D.int) = some (xs.map PyData.int)
  | [] => rfl
  | x :: xs => by
    show (match some (PyData.int x), toPyL (xs.map D.int) with | some p, some ps => some (p :: ps) | _, _ => none) = _
    rw [toPy_ints xs]
    rfl
theorem lay_ints : ∀ xs : List Int, PyData.canLayAll0 (xs.map PyData.int) = true
  | [] => rfl
  | x :: xs => by
    show (true && PyData.canLayAll0 (xs.map PyData.int)) = true
    rw [lay_ints xs]
    rfl
theorem depth_ints : ∀ xs : List Int, PyData.depthAll (xs.map PyData.int) = 0
  | [] => rfl
  | x :: xs => by
    show max 0 (PyData.depthAll (xs.map PyData.int)) = 0
    rw [depth_ints xs]
    rfl
theorem shaped_ints (xs : List Int) : SeqAt.shaped (.list (xs.map PyData.int)) = true := by
  show (PyData.canLayAll0 (xs.map PyData.int) && decide (PyData.depthAll (xs.map PyData.int) + 1 ≤ 64)) = true
  rw [lay_ints, depth_ints]
  rfl
theorem eqD_ints (xs ys : List Int) : eqD (.lst (xs.map D.int)) (.lst (ys.map D.int)) = some (PyData.eqvAll (xs.map PyData.int) (ys.map PyData.int)) := by
  unfold eqD
  have h1 : plainD (.lst (xs.map D.int)) = true := plain_ints xs
  have h2 : plainD (.lst (ys.map D.int)) = true := plain_ints ys
  have t1 : toPy (.lst (xs.map D.int)) = some (.list (xs.map PyData.int)) := by
    show (toPyL (xs.map D.int)).map PyData.list = _
    rw [toPy_ints]
    rfl
  have t2 : toPy (.lst (ys.map D.int)) = some (.list (ys.map PyData.int)) := by
    show (toPyL (ys.map D.int)).map PyData.list = _
    rw [toPy_ints]
    rfl
  rw [h1, h2, t1, t2]
  dsimp only
  rw [shaped_ints, shaped_ints]
  rfl
theorem ne_nil (xs : List Int) : oNe (.lst (xs.map D.int)) (.lst []) = .ok (.bl (!xs.isEmpty)) := by
  have h := eqD_ints xs []
  unfold oNe
  rw [show (D.lst []) = D.lst (([] : List Int).map D.int) from rfl, h]
  cases xs with
  | nil => rfl
  | cons a l => rfl
theorem atI_in {α : Type} {l : List α} {i : Int} (h : 0 ≤ i) (h2 : i < l.length) : ∃ a, a ∈ l ∧ atI l i = some a := by
  have hl : i.toNat < l.length := by omega
  refine ⟨l[i.toNat], List.getElem_mem hl, ?_⟩
  unfold atI ixN
  rw [if_pos h, if_pos h2]
  show l[i.toNat]? = _
  exact List.getElem?_eq_getElem hl
/-- the draw keeps the pen and tells a number below n -/
theorem draw_ok {c1 c2 p1 c3 c4 p2 c5 c6 c7 p3 n : Int} {st : Pn} (h1 : 0 ≤ c1 ∧ c1 < 2 ^ 20) (hp1 : 0 < p1 ∧ p1 < 2 ^ 32) (hp2 : 0 < p2 ∧ p2 < 2 ^ 32) (hp3 : 0 < p3) (h3 : 0 ≤ c3 ∧ c3 < 2 ^ 20) (h4 : 0 ≤ c4 ∧ c4 < 2 ^ 20) (h5 : 0 ≤ c5 ∧ c5 < 2 ^ 20) (h6 : 0 ≤ c6 ∧ c6 < 2 ^ 20) (h7 : 0 ≤ c7 ∧ c7 < 2 ^ 20)
    (hn : 0 < n) (hn2 : n < 2 ^ 200) (ha : st.at_ < 2 ^ 20) (ok : PenOk st) : Drawn1 st n (drawM c1 c2 p1 c3 c4 p2 c5 c6 c7 p3 [.pen, .int n] st) := by
  obtain ⟨xs, A, left⟩ := st
  obtain ⟨ok1, ok2, ok3⟩ := ok
  have ha : A < 2 ^ 20 := ha
  have ok1 : xs.length ≤ 63 := ok1
  have ok2 : ∀ x ∈ xs, Big 1 x.natAbs := ok2
  have ok3 : Big 4 left := ok3
  have t0 : (fB (fOp (oCmp fun i j => decide (j < i)) (fPen 2 (fVar 0)) (fN 0))) [some .pen, some (.int n), none, none, none, none, none] ⟨xs, A, left⟩ = .ok (decide ((0 : Int) < (left : Int))) ⟨xs, A, left⟩ := rfl
  show Drawn1 _ n (fDraw c1 c2 p1 c3 c4 p2 c5 c6 c7 p3 [some .pen, some (.int n), none, none, none, none, none] ⟨xs, A, left⟩).out
  unfold fDraw
  by_cases hl : (0 : Int) < (left : Int)
  · rw [decide_eq_true hl] at t0
    have e1 : fSet (gN 5) (fOp oMod (fInt (fPen 2 (fVar 0))) (fVar 1)) [some .pen, some (.int n), none, none, none, none, none] ⟨xs, A, left⟩ = .nx [some .pen, some (.int n), none, none, none, some (.int ((left : Int) % n)), none] ⟨xs, A, left⟩ :=
      fSet_of (fOp_of (fCB1_of rfl rfl) rfl (oMod_of hn))
    have q1 : 0 ≤ (left : Int) / n := Int.ediv_nonneg (by omega) (by omega)
    have q2 : (left : Int) / n ≤ left := Int.ediv_le_self n (by omega)
    have q3 : Big 4 ((left : Int) / n).toNat := ok3.mono (by omega)
    have e2 : fPenSet 2 (fOp oDiv (fInt (fPen 2 (fVar 0))) (fVar 1)) (fVar 0) [some .pen, some (.int n), none, none, none, some (.int ((left : Int) % n)), none] ⟨xs, A, left⟩ = .nx [some .pen, some (.int n), none, none, none, some (.int ((left : Int) % n)), none] ⟨xs, A, ((left : Int) / n).toNat⟩ :=
      (fPenSet_of (fOp_of (fCB1_of rfl rfl) rfl (oDiv_of hn hn2)) rfl ⟨q1, q3⟩).trans rfl
    have e : fIfS (fB (fOp (oCmp fun i j => decide (j < i)) (fPen 2 (fVar 0)) (fN 0))) fDrawA fNext [some .pen, some (.int n), none, none, none, none, none] ⟨xs, A, left⟩ = .rt (.int ((left : Int) % n)) ⟨xs, A, ((left : Int) / n).toNat⟩ := by
      rw [fIfS_of t0]
      unfold fDrawA
      rw [if_pos rfl, fSeq_nx e1, fSeq_nx e2]
      rfl
    rw [fSeq_rt e]
    exact ⟨_, _, rfl, Int.emod_nonneg _ (by omega), Int.emod_lt_of_pos _ hn, ⟨ok1, ok2, q3⟩, rfl, Nat.le_succ A⟩
  · rw [decide_eq_false hl] at t0
    have l0 : left = 0 := by omega
    have e : fIfS (fB (fOp (oCmp fun i j => decide (j < i)) (fPen 2 (fVar 0)) (fN 0))) fDrawA fNext [some .pen, some (.int n), none, none, none, none, none] ⟨xs, A, left⟩ = .nx [some .pen, some (.int n), none, none, none, none, none] ⟨xs, A, left⟩ := by
      rw [fIfS_of t0]
      rfl
    rw [fSeq_nx e]
    have e2 : fSet (gN 2) (fPen 1 (fVar 0)) [some .pen, some (.int n), none, none, none, none, none] ⟨xs, A, left⟩ = .nx [some .pen, some (.int n), some (.int A), none, none, none, none] ⟨xs, A, left⟩ := rfl
    rw [fSeq_nx e2]
    have e3 : fPenSet 1 (fOp oAdd (fVar 2) (fN 1)) (fVar 0) [some .pen, some (.int n), some (.int A), none, none, none, none] ⟨xs, A, left⟩ = .nx [some .pen, some (.int n), some (.int A), none, none, none, none] ⟨xs, A + 1, left⟩ :=
      (fPenSet_of (n := (A : Int) + 1) rfl rfl ⟨by omega, big_small (by omega)⟩).trans (by
        have z : ((A : Int) + 1).toNat = A + 1 := by omega
        rw [z]
        rfl)
    rw [fSeq_nx e3]
    have ok' : PenOk ⟨xs, A + 1, left⟩ := ⟨ok1, ok2, ok3⟩
    have e4 : fSet (gN 3) (fOp oAdd (fOp oMul (fN c1) (fVar 2)) (fN c2)) [some .pen, some (.int n), some (.int A), none, none, none, none] ⟨xs, A + 1, left⟩ = .nx [some .pen, some (.int n), some (.int A), some (.int (c1 * A + c2)), none, none, none] ⟨xs, A + 1, left⟩ :=
      fSet_of (fOp_of (fOp_of rfl rfl (oMul_l (by omega))) rfl rfl)
    rw [fSeq_nx e4]
    have hraw : ∃ raw : Int, (xs = [] ∨ raw ∈ xs) ∧ fIfS (fB (fOp oNe (fPen 0 (fVar 0)) (fLst fNil))) (fSet (gN 3) (fOp oIx (fPen 0 (fVar 0)) (fOp oMod (fInt (fVar 2)) (fLen (fPen 0 (fVar 0)))))) fNext [some .pen, some (.int n), some (.int A), some (.int (c1 * A + c2)), none, none, none] ⟨xs, A + 1, left⟩
        = .nx [some .pen, some (.int n), some (.int A), some (.int raw), none, none, none] ⟨xs, A + 1, left⟩ := by
      have t1 : (fB (fOp oNe (fPen 0 (fVar 0)) (fLst fNil))) [some .pen, some (.int n), some (.int A), some (.int (c1 * A + c2)), none, none, none] ⟨xs, A + 1, left⟩ = .ok (!xs.isEmpty) ⟨xs, A + 1, left⟩ := fB_of (fOp_of rfl rfl (ne_nil xs))
      cases hx : xs with
      | nil =>
        rw [hx] at t1
        exact ⟨_, .inl rfl, (fIfS_of t1).trans rfl⟩
      | cons y ys =>
        rw [← hx]
        have hpos : (0 : Int) < ((xs.map D.int).length : Nat) := by rw [hx]; simp only [List.length_map, List.length_cons]; omega
        obtain ⟨a, ha1, ha2⟩ := atI_in (l := xs.map D.int) (Int.emod_nonneg (A : Int) (Int.ne_of_gt hpos)) (Int.emod_lt_of_pos _ hpos)
        obtain ⟨raw, hr1, rfl⟩ := List.mem_map.mp ha1
        refine ⟨raw, .inr hr1, ?_⟩
        have z : (!xs.isEmpty) = true := by rw [hx]; rfl
        rw [z] at t1
        rw [fIfS_of t1, if_pos rfl]
        exact fSet_of (fOp_of rfl (fOp_of (fCB1_of rfl rfl) (fCB1_of rfl rfl) (oMod_of hpos)) (by show (match atI (xs.map D.int) ((A : Int) % ((xs.map D.int).length : Nat)) with | some d => RD.ok d | none => RD.bad) = _; rw [ha2]))
    obtain ⟨raw, hmem, e5⟩ := hraw
    rw [fSeq_nx e5]
    generalize hT : (decide ((A : Int) < ((xs.map D.int).length : Nat))) = b1
    have t2 : (fB (fOp (oCmp fun i j => decide (i < j)) (fVar 2) (fLen (fPen 0 (fVar 0))))) [some .pen, some (.int n), some (.int A), some (.int raw), none, none, none] ⟨xs, A + 1, left⟩ = .ok b1 ⟨xs, A + 1, left⟩ := by rw [← hT]; rfl
    generalize hab : (if raw < 0 then -raw else raw) = ab
    have hab2 : ab = raw.natAbs := by rw [← hab]; split <;> omega
    have t3 : (fB (fOp (oCmp fun i j => decide (j ≤ i)) (fAbs (fVar 3)) (fOp oPow (fN 10) (fN 18)))) [some .pen, some (.int n), some (.int A), some (.int raw), none, none, none] ⟨xs, A + 1, left⟩ = .ok (decide ((10 : Int) ^ 18 ≤ ab)) ⟨xs, A + 1, left⟩ := by
      rw [← hab]
      exact fB_of (fOp_of (fCB1_of rfl rfl) (fOp_of rfl rfl (oPow_of (by decide) (by decide) (by decide))) rfl)
    have t4 : (fAndT (fB (fOp (oCmp fun i j => decide (i < j)) (fVar 2) (fLen (fPen 0 (fVar 0))))) (fB (fOp (oCmp fun i j => decide (j ≤ i)) (fAbs (fVar 3)) (fOp oPow (fN 10) (fN 18))))) [some .pen, some (.int n), some (.int A), some (.int raw), none, none, none] ⟨xs, A + 1, left⟩
        = .ok (b1 && decide ((10 : Int) ^ 18 ≤ ab)) ⟨xs, A + 1, left⟩ := by
      unfold fAndT
      rw [t2]
      cases b1 with
      | false => rfl
      | true => exact t3
    cases hb : (b1 && decide ((10 : Int) ^ 18 ≤ ab)) with
    | false =>
      rw [hb] at t4
      have e6 : fIfS (fAndT (fB (fOp (oCmp fun i j => decide (i < j)) (fVar 2) (fLen (fPen 0 (fVar 0))))) (fB (fOp (oCmp fun i j => decide (j ≤ i)) (fAbs (fVar 3)) (fOp oPow (fN 10) (fN 18))))) fDrawB fNext [some .pen, some (.int n), some (.int A), some (.int raw), none, none, none] ⟨xs, A + 1, left⟩
          = .nx [some .pen, some (.int n), some (.int A), some (.int raw), none, none, none] ⟨xs, A + 1, left⟩ := by
        rw [fIfS_of t4]
        rfl
      rw [fSeq_nx e6]
      exact drawC_ok (st0 := ⟨xs, A, left⟩) hp1 hp2 hp3 h3 h4 h5 h6 h7 hn ha ok' rfl (Nat.le_refl _)
    | true =>
      rw [hb] at t4
      obtain ⟨hb1, hb2⟩ := and_of hb
      have hb2 : (10 : Int) ^ 18 ≤ ab := of_decide_eq_true hb2
      have hx : Big 1 raw.natAbs := by
        rcases hmem with z | z
        · rw [z] at hT
          rw [hb1] at hT
          have z3 := of_decide_eq_true hT
          simp at z3
          omega
        · exact ok2 raw z
      generalize hk : (if decide (raw < 0) = true then (1 : Int) else 0) = kk
      have hk2 : 0 ≤ kk ∧ kk ≤ 1 := by rw [← hk]; split <;> omega
      have e7 : fSet (gN 6) (fOp oAdd (fOp oMul (fN 2) (fOp oSub (fAbs (fVar 3)) (fOp oPow (fN 10) (fN 18)))) (fInt (fOp (oCmp fun i j => decide (i < j)) (fVar 3) (fN 0)))) [some .pen, some (.int n), some (.int A), some (.int raw), none, none, none] ⟨xs, A + 1, left⟩
          = .nx [some .pen, some (.int n), some (.int A), some (.int raw), none, none, some (.int (2 * (ab - 10 ^ 18) + kk))] ⟨xs, A + 1, left⟩ := by
        rw [← hk, ← hab]
        exact fSet_of (fOp_of (fOp_of rfl (fOp_of (fCB1_of rfl rfl) (fOp_of rfl rfl (oPow_of (by decide) (by decide) (by decide))) rfl) (oMul_l (by decide))) (fCB1_of (fOp_of rfl rfl rfl) rfl) rfl)
      have g0 : 0 ≤ 2 * (ab - 10 ^ 18) + kk := by omega
      have g1 : (2 * (ab - 10 ^ 18) + kk).toNat ≤ 2 * raw.natAbs + 1 := by omega
      generalize 2 * (ab - 10 ^ 18) + kk = gr at e7 g0 g1
      have q1 : 0 ≤ gr / n := Int.ediv_nonneg g0 (by omega)
      have q2 : gr / n ≤ gr := Int.ediv_le_self n g0
      have q3 : Big 4 (gr / n).toNat := ((big_dbl hx).mono (Nat.le_trans (by omega) g1)).up (by decide)
      have e8 : fPenSet 2 (fOp oDiv (fInt (fVar 6)) (fVar 1)) (fVar 0) [some .pen, some (.int n), some (.int A), some (.int raw), none, none, some (.int gr)] ⟨xs, A + 1, left⟩ = .nx [some .pen, some (.int n), some (.int A), some (.int raw), none, none, some (.int gr)] ⟨xs, A + 1, (gr / n).toNat⟩ :=
        (fPenSet_of (fOp_of (fCB1_of rfl rfl) rfl (oDiv_of hn hn2)) rfl ⟨q1, q3⟩).trans rfl
      have e9 : fRet (fOp oMod (fInt (fVar 6)) (fVar 1)) [some .pen, some (.int n), some (.int A), some (.int raw), none, none, some (.int gr)] ⟨xs, A + 1, (gr / n).toNat⟩ = .rt (.int (gr % n)) ⟨xs, A + 1, (gr / n).toNat⟩ := fRet_of (fOp_of (fCB1_of rfl rfl) rfl (oMod_of hn))
      have e6 : fIfS (fAndT (fB (fOp (oCmp fun i j => decide (i < j)) (fVar 2) (fLen (fPen 0 (fVar 0))))) (fB (fOp (oCmp fun i j => decide (j ≤ i)) (fAbs (fVar 3)) (fOp oPow (fN 10) (fN 18))))) fDrawB fNext [some .pen, some (.int n), some (.int A), some (.int raw), none, none, none] ⟨xs, A + 1, left⟩
          = .rt (.int (gr % n)) ⟨xs, A + 1, (gr / n).toNat⟩ := by
        rw [fIfS_of t4, if_pos rfl]
        unfold fDrawB
        rw [fSeq_nx e7, fSeq_nx e8, e9]
      rw [fSeq_rt e6]
      exact ⟨_, _, rfl, Int.emod_nonneg _ (by omega), Int.emod_lt_of_pos _ hn, ⟨ok1, ok2, q3⟩, rfl, Nat.le_refl _⟩
end DL

set_option Elab.async false
set_option linter.all false
set_option maxRecDepth 100000
set_option maxHeartbeats 4000000
namespace DL
open PySem L2 PySem.W

/-! ### steps of mirrors -/
theorem map_at {α β : Type} {l : List α} {f g : α → β} (h : l.map f = l.map g) {a : α} (ha : a ∈ l) : f a = g a := List.map_inj_left.mp h a ha
theorem fCons_of {f : F} {fa : FA} {ρ : Ev} {st st1 st2 : Pn} {d : D} {ds : List D} (h : f ρ st = .ok d st1) (h2 : fa ρ st1 = .ok ds st2) : fCons f fa ρ st = .ok (d :: ds) st2 := by
  unfold fCons
  rw [h]
  dsimp only [R.bind]
  rw [h2]
theorem fTup_of {fa : FA} {ρ : Ev} {st st1 : Pn} {ds : List D} (h : fa ρ st = .ok ds st1) (hl : ds.length ≤ 100000) : fTup fa ρ st = .ok (.tup ds) st1 := by
  unfold fTup
  rw [h]
  dsimp only [R.bind]
  rw [if_pos hl]
theorem loopS_nx {fg : FG} {fb : FS} {d : D} {ds : List D} {ρ ρ1 ρ2 : Ev} {st st2 : Pn} (h : fg d ρ = some ρ1) (h2 : fb ρ1 st = .nx ρ2 st2) : loopS fg fb (d :: ds) ρ st = loopS fg fb ds ρ2 st2 := by
  rw [loopS.eq_2]
  rw [h]
  dsimp only
  rw [h2]
theorem fFor_of {fi : FA} {fg : FG} {fb : FS} {ρ : Ev} {st st1 : Pn} {ds : List D} (h : fi ρ st = .ok ds st1) : fFor fi fg fb ρ st = loopS fg fb ds ρ st1 := by
  unfold fFor
  rw [h]
  rfl
/-! ### the law's start: the pen is made -/
def spPen (K : Frag) : Sp := fun vs H Q _ => ∃ (a : Addr) (ns : List Int), vs = [.ref a] ∧ SqL K H a (ns.map V.int) ∧ ns.length ≤ 63 ∧
  ∀ (p l : Addr) (H' : Hp), Same H H' → H p = none → H l = none → p ≠ l → H' l = some (.lst (ns.map V.int)) → H' p = some (.lst [.ref l, .int 0, .int 0]) → Q (.ref p) H'
theorem cut63 {l : List V} (h : l.length ≤ 63) : cutV l none (some 63) = l := by
  unfold cutV
  have h1 : HT.sIx l.length 0 none = 0 := rfl
  have h2 : HT.sIx l.length l.length (some 63) = l.length := by
    first
      | (simp [HT.sIx]; omega)
      | (unfold HT.sIx; simp; omega)
  rw [h1, h2]
  simp
section
variable {X : Cx} {p0 p1 p2 p3 p4 p5 p6 p7 p8 p9 : Pos} {j1 j2 j3 k : Nat} {x : Str}
/-- return [list(x[:63]), 0, 0] -/
theorem ps_penBody (hm : X.mg "list" = none) (hN : X.N[0]? = some x) (hv : Vis X.env.scope x) (hd : (x == ("__debug__" : Str)) = false) (hcd : (x == ("__classdict__" : Str)) = false) (hg : Gl X "list" := by rfl)
    (hs1 : starEach [.Subscript (.Name x p1) (.Slice none (some (.Constant (.int 63) j1 p2)) none p3) p4] X.env = (false, eval (.Subscript (.Name x p1) (.Slice none (some (.Constant (.int 63) j1 p2)) none p3) p4) X.env) :: starEach [] X.env := by rfl)
    (hs2 : starEach [.Call (.Name "list" p0) [.Subscript (.Name x p1) (.Slice none (some (.Constant (.int 63) j1 p2)) none p3) p4] [] p5, .Constant (.int 0) j2 p6, .Constant (.int 0) j3 p7] X.env = (false, eval (.Call (.Name "list" p0) [.Subscript (.Name x p1) (.Slice none (some (.Constant (.int 63) j1 p2)) none p3) p4] [] p5) X.env) :: starEach [.Constant (.int 0) j2 p6, .Constant (.int 0) j3 p7] X.env := by rfl)
    (hs3 : starEach [.Constant (.int 0) j2 p6, .Constant (.int 0) j3 p7] X.env = (false, eval (.Constant (.int 0) j2 p6) X.env) :: starEach [.Constant (.int 0) j3 p7] X.env := by rfl) (hs4 : starEach [.Constant (.int 0) j3 p7] X.env = (false, eval (.Constant (.int 0) j3 p7) X.env) :: starEach [] X.env := by rfl)
    (hpl : (backTo p5 (starEach [] X.env)).any (·.1) = false := by rfl) :
    PSs X [.Return (some (.List [.Call (.Name "list" p0) [.Subscript (.Name x p1) (.Slice none (some (.Constant (.int 63) j1 p2)) none p3) p4] [] p5, .Constant (.int 0) j2 p6, .Constant (.int 0) j3 p7] p8)) p9]
      (fun D σ H => ∃ (a : Addr) (ns : List Int), σ[0]? = some (some (.ref a)) ∧ SqL X.K H a (ns.map V.int) ∧ ns.length ≤ 63 ∧ ∀ (p l : Addr) (H' : Hp), Same H H' → H p = none → H l = none → p ≠ l → H' l = some (.lst (ns.map V.int)) → H' p = some (.lst [.ref l, .int 0, .int 0]) → D.rt (.ref p) H') :=
  PSs.to (pss_one (ps_ret (pe_lst (pa_cons (pe_callTy call_list_of hg hm (by decide +kernel) (pa_cons (pe_slice sl_list (pe_var hN hv hd hcd) po_none (po_some pe_int)) pa_nil hs1) (by decide) (by decide) hs1 hpl) (pa_cons pe_int (pa_cons pe_int pa_nil hs4) hs3) hs2)))) fun D σ H ⟨a, ns, h1, h2, h3, h4⟩ => by
    refine ⟨.ref a, h1, 63, rfl, a, ns.map V.int, rfl, h2, fun q hq => ?_⟩
    have hc : cutV (ns.map V.int) none (some 63) = ns.map V.int := cut63 (by rw [List.length_map]; exact h3)
    rw [hc]
    refine ⟨q, ns.map V.int, rfl, .inl (SqL.of upd_same), fun l hl => ⟨(by show 3 ≤ sizeLine; rw [sizeLine_eq]; decide), fun p hp => ?_⟩⟩
    have s1 : Same H (upd H q (.lst (ns.map V.int))) := same_new hq
    have s2 := same_new (o := HO.lst (ns.map V.int)) hl
    have s3 := same_new (o := HO.lst [.ref l, .int 0, .int 0]) hp
    have npl : p ≠ l := fun z => by
      subst z
      rw [upd_same] at hp
      cases hp
    refine h4 p l _ (fun b o e => s3 _ _ (s2 _ _ (s1 _ _ e))) (s1.free (s2.free hp)) (s1.free hl) npl ?_ upd_same
    rw [upd_ne (Ne.symm npl)]
    exact upd_same
/-- y = _law_pen(x) -/
theorem ps_pen {y : Str} {i : Nat} (C : Cal X.prog X.w X.K X.mg X.base k "_law_pen" ["_law_script"] (spPen X.K)) (hr : RoomG k X.A) (nd : X.N.Nodup) (hN : X.N[0]? = some x) (hi : X.N[i]? = some y) (hl : Loc X.env.scope y) (hv : Vis X.env.scope x) (hd : (x == ("__debug__" : Str)) = false) (hcd : (x == ("__classdict__" : Str)) = false) (hg : Gl X "_law_pen" := by rfl)
    (hs1 : starEach [.Name x p1] X.env = (false, eval (.Name x p1) X.env) :: starEach [] X.env := by rfl) (hpl : (backTo p2 (starEach [] X.env)).any (·.1) = false := by rfl)
    (hsw : swapsWith (.Call (.Name "_law_pen" p0) [.Name x p1] [] p2) (some (.Name y p3)) p4.line X.env = pure false := by rfl) (hf : X.fn y = true ∨ List.lookup y X.env.scope.names = some NameKind.local := by first | exact .inl rfl | exact .inr rfl) :
    PS X (.Assign [.Name y p3] (.Call (.Name "_law_pen" p0) [.Name x p1] [] p2) p4) (fun D σ H => ∃ v, σ[0]? = some (some v) ∧ spPen X.K [v] H (fun u H' => D.nx (σ.set i (some u)) H') (fun _ _ _ => False)) := by
  obtain ⟨f, fd, F, hm, hk, hb⟩ := C.ex
  have h1 : PE X (.Call (.Name "_law_pen" p0) [.Name x p1] [] p2) (fun σ H Q => ∃ v, σ[0]? = some (some v) ∧ spPen X.K [v] H Q (fun _ _ _ => False)) := by
    refine ⟨fun pins s σ H Q I ⟨v, h1, h2⟩ => ?_⟩
    refine wpAny_Call_Name_kw (ld_glob I hg hm (PySem.W.callWith_K (h₀ := X.base) I.ok.mod.kin hk ?_ hs1 hpl) (by decide))
    refine thn ((pa_cons (pe_var hN hv hd hcd) pa_nil hs1).run p2 pins s σ H (fun vs H1 => spPen X.K vs H1 Q fun _ _ _ => False) I ⟨v, h1, h2⟩) fun us s1 ⟨vs, H1, I1, r, q⟩ => ⟨I1.kIn, ?_⟩
    have hlv : (us ++ ([] : List Value)).length = (["_law_script"] : List Str).length := by rw [List.append_nil, ← r.length]; exact F.len _ _ _ _ q
    have hbb := hb s1 us I1.kIn hlv
    rw [List.append_nil] at hbb
    exact run_fnG (W := W0) (args := ⟨us, []⟩) F hr tk0 (fun _ _ _ z => z) I1 hbb r q
  exact PS.to (ps_set nd hi hl h1 hsw hf) fun D σ H h => h
end
/-- what is asked of a law: whatever the script, True -/
def spLaw (K : Frag) : Sp := fun vs H Q _ => ∃ (a : Addr) (ns : List Int), vs = [.ref a] ∧ SqL K H a (ns.map V.int) ∧ ns.length ≤ 63 ∧ (∀ z ∈ ns, Big 1 z.natAbs) ∧ ∀ H', Q (.bl true) H'
section
variable {P : Program} {w : World} {K : Frag} {mg : Str → Option Value} {base : Heap} {g : G}
theorem pen_fn {st : Stmt} {f : Addr} {fd : FuncData} {N : List Str} (F : Fun K "_law_pen" "_law_pen" st f fd) (S : FnScope N ["_law_script"] (defScope st)) 
    (hb : ∀ (cdv : Value) (A : Around) (fr : List Env) (s : Shared) (H : Hp) (E : XK), PSs (cxOf (CX P w) P w K mg base N "_law_pen" (defScope st) f cdv A fr s H E) (defBody st)
      (fun D σ H => ∃ (a : Addr) (ns : List Int), σ[0]? = some (some (.ref a)) ∧ SqL K H a (ns.map V.int) ∧ ns.length ≤ 63 ∧ ∀ (p l : Addr) (H' : Hp), Same H H' → H p = none → H l = none → p ≠ l → H' l = some (.lst (ns.map V.int)) → H' p = some (.lst [.ref l, .int 0, .int 0]) → D.rt (.ref p) H')) :
    FnG P w K mg base 1 f fd ["_law_script"] (spPen K) :=
  fnG F S (fun vs H Q E ⟨a, ns, e, _⟩ => by rw [e]; rfl) fun cdv A fr s H vs Q E hr ⟨a, ns, e, h1, h2, h3⟩ => ⟨_, hb cdv A fr s H E, a, ns, (by rw [e]; rfl), h1, h2, h3⟩
/-- the law: its first statement makes the pen, the others are read by the mirror fs -/
theorem law_fn {st s1 : Stmt} {rest : List Stmt} {f : Addr} {fd : FuncData} {N : List Str} {k : Nat} {fs : FS} (F : Fun K "law" "law" st f fd) (S : FnScope N ["_law_script"] (defScope st)) (hbody : defBody st = s1 :: rest) (hN : 1 < N.length)
    (h1 : ∀ (cdv : Value) (A : Around) (fr : List Env) (s : Shared) (H : Hp) (E : XK), RoomG k (A.deeper (PyProof.Rows.envOfC "law" (defScope st) s.heap.objs.size f cdv)) →
      PS (cxOf (CX P w) P w K mg base N "law" (defScope st) f cdv A fr s H E) s1 (fun D σ H => ∃ v, σ[0]? = some (some v) ∧ spPen K [v] H (fun u H' => D.nx (σ.set 1 (some u)) H') (fun _ _ _ => False)))
    (h2 : ∀ (m : Mw) (cdv : Value) (A : Around) (fr : List Env) (s : Shared) (H : Hp) (E : XK), RoomG k (A.deeper (PyProof.Rows.envOfC "law" (defScope st) s.heap.objs.size f cdv)) →
      Takes (cxOf (CX P w) P w K mg base N "law" (defScope st) f cdv A fr s H E) (fun c d _ H' => E c d H') →
      PassesOwn (model P w) (A.deeper (PyProof.Rows.envOfC "law" (defScope st) s.heap.objs.size f cdv)) (PyProof.Rows.envOfC "law" (defScope st) s.heap.objs.size f cdv) (cxOf (CX P w) P w K mg base N "law" (defScope st) f cdv A fr s H E).xe →
      PSs (cxOf (CX P w) P w K mg base N "law" (defScope st) f cdv A fr s H E) rest (tDS g m (fun c d _ H' => E c d H') fs))
    (hp : ∀ ns : List Int, PenOk ⟨ns, 0, 0⟩ → ∃ st', fs (none :: some .pen :: List.replicate (N.length - 2) none) ⟨ns, 0, 0⟩ = .rt (.bl true) st') :
    FnG P w K mg base (k + 1) f fd ["_law_script"] (spLaw K) := by
  refine fnG F S (fun vs H Q E ⟨a, ns, e, _⟩ => by rw [e]; rfl) fun cdv A fr s H vs Q E hr ⟨a, ns, e, hs, hl, hbig, hq⟩ => ?_
  subst e
  let tR : TS := fun D σ H' => ∃ m : Mw, tDS g m (fun c d _ H' => E c d H') fs D σ H'
  have hR : PSs (cxOf (CX P w) P w K mg base N "law" (defScope st) f cdv A fr s H E) rest tR :=
    ⟨fun pins s' σ H' D I ⟨m, q⟩ => (h2 m cdv A fr s H E hr (takes_of rfl rfl rfl rfl) (passes_of rfl)).run pins s' σ H' D I q⟩
  refine ⟨_, by rw [hbody]; exact pss_cons (h1 cdv A fr s H E hr) hR, ?_⟩
  refine ⟨.ref a, rfl, a, ns, rfl, hs, hl, fun p l H' sm hp0 hl0 npl h4 h5 => ?_⟩
  have ok : PenOk ⟨ns, 0, 0⟩ := ⟨hl, hbig, big_small (n := 0) (by decide)⟩
  obtain ⟨st', ev⟩ := hp ns ok
  refine ⟨⟨some p, fun b => b = p, fun _ => False⟩, none :: some .pen :: List.replicate (N.length - 2) none, ⟨ns, 0, 0⟩, ⟨?_, fun i d hi => ?_⟩, ⟨fun b hb => ?_, fun q hq2 => ?_⟩, ?_⟩
  · simp [L2.start]
    omega
  · match i with
    | 0 => simp at hi
    | 1 =>
      simp at hi
      subst hi
      refine ⟨.ref p, ?_, p, rfl, rfl⟩
      rw [List.getElem?_set_self]
      simp [L2.start]
      omega
    | i + 2 =>
      simp only [List.getElem?_cons_succ, List.getElem?_replicate] at hi
      split at hi <;> cases hi
  · rcases hb with z | z
    · rw [show b = p from z, h5]
      exact fun y => nomatch y
    · exact z.elim
  · cases hq2
    exact ⟨rfl, ok, l, fun z => z.elim (fun y => npl (show l = p from y).symm) id, h5, h4⟩
  · rw [ev]
    intro v H2 _ _ hr2
    cases hr2
    exact hq H2
end
end DL

set_option Elab.async false
set_option linter.all false
set_option maxRecDepth 100000
set_option maxHeartbeats 4000000
namespace K01
open PySem L2 PySem.W PySem.HandSPX DL
abbrev P : Program := PySem.Challenge.pw_shiftspread_k01_errors_and_their_fields
def top (i : Nat) : Stmt := P.main.body.getD i (.Pass ⟨0, 0, 0, 0⟩)
def nms : List Str := ["CoderError", "BadPattern", "BadNumber", "BadBits", "BadTable", "BadCoder", "BadLengths", "BadStep", "BadRows", "BadRound", "BadBook", "BadText", "BadLine", "NoName", "NoPlace", "Taken", "Unlike", "TooMany", "NoChange"]
def flds : List (List Str) := [[], ["value"], ["value"], ["part"], ["part"], ["part"], ["part"], ["part"], ["at"], ["part"], ["part"], ["line", "word"], ["word"], ["name"], ["at"], ["name"], ["part"], ["what", "most"], []]
abbrev gOf (K : Frag) (cs : List Addr) : G := ⟨K, fun c => cs.getD c 0, fun c => flds.getD c []⟩
def atx (f : Str) (c : Nat) : Option Nat := (flds.getD c []).findIdx? (· == f)
def zs : List Str := ["len", "abs", "int", "list", "repr", "isinstance", "range", "enumerate", "ValueError", "super"]
/-- each class: itself, the base, what the base is below -/
def kit : Kit := fun t d => match t, d with
  | .x c, .cls c' => if c < 19 ∧ c' < 19 then some (c == c' || c' == 0) else none
  | .x c, .ty n => if c < 19 ∧ n = "ValueError" then some true else none
  | _, _ => none
structure Tx (w : World) (K : Frag) (mg : Str → Option Value) (cs : List Addr) : Prop where
  mgc : ∀ c x, nms[c]? = some x → mg x = some (.ref ((gOf K cs).ct c))
  xp : ∀ c, (decide (0 < c) && decide (c < 19)) = true → XcI P w K mg ((gOf K cs).ct c) ((gOf K cs).fn c) fmP
  xk : ∀ c, (flds.getD c []).length = 1 → XcI P w K mg ((gOf K cs).ct c) ((gOf K cs).fn c) (fmK ((gOf K cs).fn c))
  xs : ∀ c x1 x2, flds.getD c [] = [x1, x2] → XcI P w K mg ((gOf K cs).ct c) ((gOf K cs).fn c) (fmS x1 x2)
  kit : K01.kit.ok (gOf K cs) K
  ax : ∀ f c i, atx f c = some i → AtX K (gOf K cs) f c i
  z : ∀ x, x ∈ zs → mg x = none
  pl : excIn K ((gOf K cs).ct 0) [.type "ValueError", .type "Exception", .type "BaseException", .type "object"] "ValueError.__new__" = true
  plk : keepIn K (.ref ((gOf K cs).ct 0)) = true
theorem noAo {K : Frag} {g : G} {f : Str} : ∀ c i, (fun _ : Nat => (none : Option Nat)) c = some i → AtO K g f c i := fun _ _ h => by cases h
abbrev s1 : Stmt := inClass (top 2) 0
theorem xc1 {K : Frag} {C f cda cc : Addr} {oc : Value} {od an : Option Addr} {osl : Array (Option Value)} {kV doc pm ct : Value} (h : xcChk P K C f cda cc "BadPattern.__init__" ["value"] = true)
    (l : K.lookup f = some ⟨oc, od, .func (ksFn "__init__" "BadPattern.__init__" (defArgs s1) (defBody s1) (defScope s1) .none kV doc pm an (.ref cda) ct cc), osl⟩) : XcK P K C f s1 ["value"] :=
  xck_of h l (by decide +kernel) ⟨rfl, rfl, rfl, by decide +kernel, rfl, rfl, rfl, by decide +kernel⟩ ⟨_, rfl, rfl⟩
theorem xi1P {w : World} {K : Frag} {mg : Str → Option Value} {C f : Addr} (X : XcK P K C f s1 ["value"]) (gs : mg "super" = none) : XcI P w K mg C ["value"] fmP :=
  xcI X (ini1 X gs rfl (fun s e vs qual kV doc pm an cd ct cc hl => match vs, hl with | [_], _ => BindsTo.of_eq rfl) (fun _ _ _ _ => ⟨_, rfl⟩) (fun _ _ _ _ => ⟨rfl, rfl⟩) (by decide) (by decide)) (fun vs hl => match vs, hl with | [_], _ => Nat.le_of_ble_eq_true rfl)
theorem xi1K {w : World} {K : Frag} {mg : Str → Option Value} {C f : Addr} (X : XcK P K C f s1 ["value"]) (gs : mg "super" = none) : XcI P w K mg C ["value"] (fmK ["value"]) :=
  xcI X (ini1 X gs rfl (fun s e vs qual kV doc pm an cd ct cc hl => match vs, hl with | [_], _ => BindsTo.of_eq rfl) (fun _ _ _ _ => ⟨_, rfl⟩) (fun _ _ _ _ => ⟨rfl, rfl⟩) (by decide) (by decide)) (fun vs hl => match vs, hl with | [_], _ => Nat.le_of_ble_eq_true rfl)
abbrev s2 : Stmt := inClass (top 3) 0
theorem xc2 {K : Frag} {C f cda cc : Addr} {oc : Value} {od an : Option Addr} {osl : Array (Option Value)} {kV doc pm ct : Value} (h : xcChk P K C f cda cc "BadNumber.__init__" ["value"] = true)
    (l : K.lookup f = some ⟨oc, od, .func (ksFn "__init__" "BadNumber.__init__" (defArgs s2) (defBody s2) (defScope s2) .none kV doc pm an (.ref cda) ct cc), osl⟩) : XcK P K C f s2 ["value"] :=
  xck_of h l (by decide +kernel) ⟨rfl, rfl, rfl, by decide +kernel, rfl, rfl, rfl, by decide +kernel⟩ ⟨_, rfl, rfl⟩
theorem xi2P {w : World} {K : Frag} {mg : Str → Option Value} {C f : Addr} (X : XcK P K C f s2 ["value"]) (gs : mg "super" = none) : XcI P w K mg C ["value"] fmP :=
  xcI X (ini1 X gs rfl (fun s e vs qual kV doc pm an cd ct cc hl => match vs, hl with | [_], _ => BindsTo.of_eq rfl) (fun _ _ _ _ => ⟨_, rfl⟩) (fun _ _ _ _ => ⟨rfl, rfl⟩) (by decide) (by decide)) (fun vs hl => match vs, hl with | [_], _ => Nat.le_of_ble_eq_true rfl)
theorem xi2K {w : World} {K : Frag} {mg : Str → Option Value} {C f : Addr} (X : XcK P K C f s2 ["value"]) (gs : mg "super" = none) : XcI P w K mg C ["value"] (fmK ["value"]) :=
  xcI X (ini1 X gs rfl (fun s e vs qual kV doc pm an cd ct cc hl => match vs, hl with | [_], _ => BindsTo.of_eq rfl) (fun _ _ _ _ => ⟨_, rfl⟩) (fun _ _ _ _ => ⟨rfl, rfl⟩) (by decide) (by decide)) (fun vs hl => match vs, hl with | [_], _ => Nat.le_of_ble_eq_true rfl)
abbrev s3 : Stmt := inClass (top 4) 0
theorem xc3 {K : Frag} {C f cda cc : Addr} {oc : Value} {od an : Option Addr} {osl : Array (Option Value)} {kV doc pm ct : Value} (h : xcChk P K C f cda cc "BadBits.__init__" ["part"] = true)
    (l : K.lookup f = some ⟨oc, od, .func (ksFn "__init__" "BadBits.__init__" (defArgs s3) (defBody s3) (defScope s3) .none kV doc pm an (.ref cda) ct cc), osl⟩) : XcK P K C f s3 ["part"] :=
  xck_of h l (by decide +kernel) ⟨rfl, rfl, rfl, by decide +kernel, rfl, rfl, rfl, by decide +kernel⟩ ⟨_, rfl, rfl⟩
theorem xi3P {w : World} {K : Frag} {mg : Str → Option Value} {C f : Addr} (X : XcK P K C f s3 ["part"]) (gs : mg "super" = none) : XcI P w K mg C ["part"] fmP :=
  xcI X (ini1 X gs rfl (fun s e vs qual kV doc pm an cd ct cc hl => match vs, hl with | [_], _ => BindsTo.of_eq rfl) (fun _ _ _ _ => ⟨_, rfl⟩) (fun _ _ _ _ => ⟨rfl, rfl⟩) (by decide) (by decide)) (fun vs hl => match vs, hl with | [_], _ => Nat.le_of_ble_eq_true rfl)
theorem xi3K {w : World} {K : Frag} {mg : Str → Option Value} {C f : Addr} (X : XcK P K C f s3 ["part"]) (gs : mg "super" = none) : XcI P w K mg C ["part"] (fmK ["part"]) :=
  xcI X (ini1 X gs rfl (fun s e vs qual kV doc pm an cd ct cc hl => match vs, hl with | [_], _ => BindsTo.of_eq rfl) (fun _ _ _ _ => ⟨_, rfl⟩) (fun _ _ _ _ => ⟨rfl, rfl⟩) (by decide) (by decide)) (fun vs hl => match vs, hl with | [_], _ => Nat.le_of_ble_eq_true rfl)
abbrev s4 : Stmt := inClass (top 5) 0
theorem xc4 {K : Frag} {C f cda cc : Addr} {oc : Value} {od an : Option Addr} {osl : Array (Option Value)} {kV doc pm ct : Value} (h : xcChk P K C f cda cc "BadTable.__init__" ["part"] = true)
    (l : K.lookup f = some ⟨oc, od, .func (ksFn "__init__" "BadTable.__init__" (defArgs s4) (defBody s4) (defScope s4) .none kV doc pm an (.ref cda) ct cc), osl⟩) : XcK P K C f s4 ["part"] :=
  xck_of h l (by decide +kernel) ⟨rfl, rfl, rfl, by decide +kernel, rfl, rfl, rfl, by decide +kernel⟩ ⟨_, rfl, rfl⟩
theorem xi4P {w : World} {K : Frag} {mg : Str → Option Value} {C f : Addr} (X : XcK P K C f s4 ["part"]) (gs : mg "super" = none) : XcI P w K mg C ["part"] fmP :=
  xcI X (ini1 X gs rfl (fun s e vs qual kV doc pm an cd ct cc hl => match vs, hl with | [_], _ => BindsTo.of_eq rfl) (fun _ _ _ _ => ⟨_, rfl⟩) (fun _ _ _ _ => ⟨rfl, rfl⟩) (by decide) (by decide)) (fun vs hl => match vs, hl with | [_], _ => Nat.le_of_ble_eq_true rfl)
theorem xi4K {w : World} {K : Frag} {mg : Str → Option Value} {C f : Addr} (X : XcK P K C f s4 ["part"]) (gs : mg "super" = none) : XcI P w K mg C ["part"] (fmK ["part"]) :=
  xcI X (ini1 X gs rfl (fun s e vs qual kV doc pm an cd ct cc hl => match vs, hl with | [_], _ => BindsTo.of_eq rfl) (fun _ _ _ _ => ⟨_, rfl⟩) (fun _ _ _ _ => ⟨rfl, rfl⟩) (by decide) (by decide)) (fun vs hl => match vs, hl with | [_], _ => Nat.le_of_ble_eq_true rfl)
abbrev s5 : Stmt := inClass (top 6) 0
theorem xc5 {K : Frag} {C f cda cc : Addr} {oc : Value} {od an : Option Addr} {osl : Array (Option Value)} {kV doc pm ct : Value} (h : xcChk P K C f cda cc "BadCoder.__init__" ["part"] = true)
    (l : K.lookup f = some ⟨oc, od, .func (ksFn "__init__" "BadCoder.__init__" (defArgs s5) (defBody s5) (defScope s5) .none kV doc pm an (.ref cda) ct cc), osl⟩) : XcK P K C f s5 ["part"] :=
  xck_of h l (by decide +kernel) ⟨rfl, rfl, rfl, by decide +kernel, rfl, rfl, rfl, by decide +kernel⟩ ⟨_, rfl, rfl⟩
theorem xi5P {w : World} {K : Frag} {mg : Str → Option Value} {C f : Addr} (X : XcK P K C f s5 ["part"]) (gs : mg "super" = none) : XcI P w K mg C ["part"] fmP :=
  xcI X (ini1 X gs rfl (fun s e vs qual kV doc pm an cd ct cc hl => match vs, hl with | [_], _ => BindsTo.of_eq rfl) (fun _ _ _ _ => ⟨_, rfl⟩) (fun _ _ _ _ => ⟨rfl, rfl⟩) (by decide) (by decide)) (fun vs hl => match vs, hl with | [_], _ => Nat.le_of_ble_eq_true rfl)
theorem xi5K {w : World} {K : Frag} {mg : Str → Option Value} {C f : Addr} (X : XcK P K C f s5 ["part"]) (gs : mg "super" = none) : XcI P w K mg C ["part"] (fmK ["part"]) :=
  xcI X (ini1 X gs rfl (fun s e vs qual kV doc pm an cd ct cc hl => match vs, hl with | [_], _ => BindsTo.of_eq rfl) (fun _ _ _ _ => ⟨_, rfl⟩) (fun _ _ _ _ => ⟨rfl, rfl⟩) (by decide) (by decide)) (fun vs hl => match vs, hl with | [_], _ => Nat.le_of_ble_eq_true rfl)
abbrev s6 : Stmt := inClass (top 7) 0
theorem xc6 {K : Frag} {C f cda cc : Addr} {oc : Value} {od an : Option Addr} {osl : Array (Option Value)} {kV doc pm ct : Value} (h : xcChk P K C f cda cc "BadLengths.__init__" ["part"] = true)
    (l : K.lookup f = some ⟨oc, od, .func (ksFn "__init__" "BadLengths.__init__" (defArgs s6) (defBody s6) (defScope s6) .none kV doc pm an (.ref cda) ct cc), osl⟩) : XcK P K C f s6 ["part"] :=
  xck_of h l (by decide +kernel) ⟨rfl, rfl, rfl, by decide +kernel, rfl, rfl, rfl, by decide +kernel⟩ ⟨_, rfl, rfl⟩
theorem xi6P {w : World} {K : Frag} {mg : Str → Option Value} {C f : Addr} (X : XcK P K C f s6 ["part"]) (gs : mg "super" = none) : XcI P w K mg C ["part"] fmP :=
  xcI X (ini1 X gs rfl (fun s e vs qual kV doc pm an cd ct cc hl => match vs, hl with | [_], _ => BindsTo.of_eq rfl) (fun _ _ _ _ => ⟨_, rfl⟩) (fun _ _ _ _ => ⟨rfl, rfl⟩) (by decide) (by decide)) (fun vs hl => match vs, hl with | [_], _ => Nat.le_of_ble_eq_true rfl)
theorem xi6K {w : World} {K : Frag} {mg : Str → Option Value} {C f : Addr} (X : XcK P K C f s6 ["part"]) (gs : mg "super" = none) : XcI P w K mg C ["part"] (fmK ["part"]) :=
  xcI X (ini1 X gs rfl (fun s e vs qual kV doc pm an cd ct cc hl => match vs, hl with | [_], _ => BindsTo.of_eq rfl) (fun _ _ _ _ => ⟨_, rfl⟩) (fun _ _ _ _ => ⟨rfl, rfl⟩) (by decide) (by decide)) (fun vs hl => match vs, hl with | [_], _ => Nat.le_of_ble_eq_true rfl)
abbrev s7 : Stmt := inClass (top 8) 0
theorem xc7 {K : Frag} {C f cda cc : Addr} {oc : Value} {od an : Option Addr} {osl : Array (Option Value)} {kV doc pm ct : Value} (h : xcChk P K C f cda cc "BadStep.__init__" ["part"] = true)
    (l : K.lookup f = some ⟨oc, od, .func (ksFn "__init__" "BadStep.__init__" (defArgs s7) (defBody s7) (defScope s7) .none kV doc pm an (.ref cda) ct cc), osl⟩) : XcK P K C f s7 ["part"] :=
  xck_of h l (by decide +kernel) ⟨rfl, rfl, rfl, by decide +kernel, rfl, rfl, rfl, by decide +kernel⟩ ⟨_, rfl, rfl⟩
theorem xi7P {w : World} {K : Frag} {mg : Str → Option Value} {C f : Addr} (X : XcK P K C f s7 ["part"]) (gs : mg "super" = none) : XcI P w K mg C ["part"] fmP :=
  xcI X (ini1 X gs rfl (fun s e vs qual kV doc pm an cd ct cc hl => match vs, hl with | [_], _ => BindsTo.of_eq rfl) (fun _ _ _ _ => ⟨_, rfl⟩) (fun _ _ _ _ => ⟨rfl, rfl⟩) (by decide) (by decide)) (fun vs hl => match vs, hl with | [_], _ => Nat.le_of_ble_eq_true rfl)
theorem xi7K {w : World} {K : Frag} {mg : Str → Option Value} {C f : Addr} (X : XcK P K C f s7 ["part"]) (gs : mg "super" = none) : XcI P w K mg C ["part"] (fmK ["part"]) :=
  xcI X (ini1 X gs rfl (fun s e vs qual kV doc pm an cd ct cc hl => match vs, hl with | [_], _ => BindsTo.of_eq rfl) (fun _ _ _ _ => ⟨_, rfl⟩) (fun _ _ _ _ => ⟨rfl, rfl⟩) (by decide) (by decide)) (fun vs hl => match vs, hl with | [_], _ => Nat.le_of_ble_eq_true rfl)
abbrev s8 : Stmt := inClass (top 9) 0
theorem xc8 {K : Frag} {C f cda cc : Addr} {oc : Value} {od an : Option Addr} {osl : Array (Option Value)} {kV doc pm ct : Value} (h : xcChk P K C f cda cc "BadRows.__init__" ["at"] = true)
    (l : K.lookup f = some ⟨oc, od, .func (ksFn "__init__" "BadRows.__init__" (defArgs s8) (defBody s8) (defScope s8) .none kV doc pm an (.ref cda) ct cc), osl⟩) : XcK P K C f s8 ["at"] :=
  xck_of h l (by decide +kernel) ⟨rfl, rfl, rfl, by decide +kernel, rfl, rfl, rfl, by decide +kernel⟩ ⟨_, rfl, rfl⟩
theorem xi8P {w : World} {K : Frag} {mg : Str → Option Value} {C f : Addr} (X : XcK P K C f s8 ["at"]) (gs : mg "super" = none) : XcI P w K mg C ["at"] fmP :=
  xcI X (ini1 X gs rfl (fun s e vs qual kV doc pm an cd ct cc hl => match vs, hl with | [_], _ => BindsTo.of_eq rfl) (fun _ _ _ _ => ⟨_, rfl⟩) (fun _ _ _ _ => ⟨rfl, rfl⟩) (by decide) (by decide)) (fun vs hl => match vs, hl with | [_], _ => Nat.le_of_ble_eq_true rfl)
theorem xi8K {w : World} {K : Frag} {mg : Str → Option Value} {C f : Addr} (X : XcK P K C f s8 ["at"]) (gs : mg "super" = none) : XcI P w K mg C ["at"] (fmK ["at"]) :=
  xcI X (ini1 X gs rfl (fun s e vs qual kV doc pm an cd ct cc hl => match vs, hl with | [_], _ => BindsTo.of_eq rfl) (fun _ _ _ _ => ⟨_, rfl⟩) (fun _ _ _ _ => ⟨rfl, rfl⟩) (by decide) (by decide)) (fun vs hl => match vs, hl with | [_], _ => Nat.le_of_ble_eq_true rfl)
abbrev s9 : Stmt := inClass (top 10) 0
theorem xc9 {K : Frag} {C f cda cc : Addr} {oc : Value} {od an : Option Addr} {osl : Array (Option Value)} {kV doc pm ct : Value} (h : xcChk P K C f cda cc "BadRound.__init__" ["part"] = true)
    (l : K.lookup f = some ⟨oc, od, .func (ksFn "__init__" "BadRound.__init__" (defArgs s9) (defBody s9) (defScope s9) .none kV doc pm an (.ref cda) ct cc), osl⟩) : XcK P K C f s9 ["part"] :=
  xck_of h l (by decide +kernel) ⟨rfl, rfl, rfl, by decide +kernel, rfl, rfl, rfl, by decide +kernel⟩ ⟨_, rfl, rfl⟩
theorem xi9P {w : World} {K : Frag} {mg : Str → Option Value} {C f : Addr} (X : XcK P K C f s9 ["part"]) (gs : mg "super" = none) : XcI P w K mg C ["part"] fmP :=
  xcI X (ini1 X gs rfl (fun s e vs qual kV doc pm an cd ct cc hl => match vs, hl with | [_], _ => BindsTo.of_eq rfl) (fun _ _ _ _ => ⟨_, rfl⟩) (fun _ _ _ _ => ⟨rfl, rfl⟩) (by decide) (by decide)) (fun vs hl => match vs, hl with | [_], _ => Nat.le_of_ble_eq_true rfl)
theorem xi9K {w : World} {K : Frag} {mg : Str → Option Value} {C f : Addr} (X : XcK P K C f s9 ["part"]) (gs : mg "super" = none) : XcI P w K mg C ["part"] (fmK ["part"]) :=
  xcI X (ini1 X gs rfl (fun s e vs qual kV doc pm an cd ct cc hl => match vs, hl with | [_], _ => BindsTo.of_eq rfl) (fun _ _ _ _ => ⟨_, rfl⟩) (fun _ _ _ _ => ⟨rfl, rfl⟩) (by decide) (by decide)) (fun vs hl => match vs, hl with | [_], _ => Nat.le_of_ble_eq_true rfl)
abbrev s10 : Stmt := inClass (top 11) 0
theorem xc10 {K : Frag} {C f cda cc : Addr} {oc : Value} {od an : Option Addr} {osl : Array (Option Value)} {kV doc pm ct : Value} (h : xcChk P K C f cda cc "BadBook.__init__" ["part"] = true)
    (l : K.lookup f = some ⟨oc, od, .func (ksFn "__init__" "BadBook.__init__" (defArgs s10) (defBody s10) (defScope s10) .none kV doc pm an (.ref cda) ct cc), osl⟩) : XcK P K C f s10 ["part"] :=
  xck_of h l (by decide +kernel) ⟨rfl, rfl, rfl, by decide +kernel, rfl, rfl, rfl, by decide +kernel⟩ ⟨_, rfl, rfl⟩
theorem xi10P {w : World} {K : Frag} {mg : Str → Option Value} {C f : Addr} (X : XcK P K C f s10 ["part"]) (gs : mg "super" = none) : XcI P w K mg C ["part"] fmP :=
  xcI X (ini1 X gs rfl (fun s e vs qual kV doc pm an cd ct cc hl => match vs, hl with | [_], _ => BindsTo.of_eq rfl) (fun _ _ _ _ => ⟨_, rfl⟩) (fun _ _ _ _ => ⟨rfl, rfl⟩) (by decide) (by decide)) (fun vs hl => match vs, hl with | [_], _ => Nat.le_of_ble_eq_true rfl)
theorem xi10K {w : World} {K : Frag} {mg : Str → Option Value} {C f : Addr} (X : XcK P K C f s10 ["part"]) (gs : mg "super" = none) : XcI P w K mg C ["part"] (fmK ["part"]) :=
  xcI X (ini1 X gs rfl (fun s e vs qual kV doc pm an cd ct cc hl => match vs, hl with | [_], _ => BindsTo.of_eq rfl) (fun _ _ _ _ => ⟨_, rfl⟩) (fun _ _ _ _ => ⟨rfl, rfl⟩) (by decide) (by decide)) (fun vs hl => match vs, hl with | [_], _ => Nat.le_of_ble_eq_true rfl)
abbrev s11 : Stmt := inClass (top 12) 0
theorem xc11 {K : Frag} {C f cda cc : Addr} {oc : Value} {od an : Option Addr} {osl : Array (Option Value)} {kV doc pm ct : Value} (h : xcChk P K C f cda cc "BadText.__init__" ["line", "word"] = true)
    (l : K.lookup f = some ⟨oc, od, .func (ksFn "__init__" "BadText.__init__" (defArgs s11) (defBody s11) (defScope s11) .none kV doc pm an (.ref cda) ct cc), osl⟩) : XcK P K C f s11 ["line", "word"] :=
  xck_of h l (by decide +kernel) ⟨rfl, rfl, rfl, by decide +kernel, rfl, rfl, rfl, by decide +kernel⟩ ⟨_, rfl, rfl⟩
theorem xi11P {w : World} {K : Frag} {mg : Str → Option Value} {C f : Addr} (X : XcK P K C f s11 ["line", "word"]) (gs : mg "super" = none) : XcI P w K mg C ["line", "word"] fmP :=
  xcI X (ini2 X gs rfl (fun s e vs qual kV doc pm an cd ct cc hl => match vs, hl with | [_, _], _ => BindsTo.of_eq rfl) (fun _ _ _ _ => ⟨_, rfl⟩) (fun _ _ _ _ => ⟨rfl, rfl, rfl⟩) (by decide) (by decide)) (fun vs hl => match vs, hl with | [_, _], _ => Nat.le_of_ble_eq_true rfl)
theorem xi11S {w : World} {K : Frag} {mg : Str → Option Value} {C f : Addr} (X : XcK P K C f s11 ["line", "word"]) (gs : mg "super" = none) : XcI P w K mg C ["line", "word"] (fmS "line" "word") :=
  xcI X (ini2 X gs rfl (fun s e vs qual kV doc pm an cd ct cc hl => match vs, hl with | [_, _], _ => BindsTo.of_eq rfl) (fun _ _ _ _ => ⟨_, rfl⟩) (fun _ _ _ _ => ⟨rfl, rfl, rfl⟩) (by decide) (by decide)) (fun vs hl => match vs, hl with | [_, _], _ => Nat.le_of_ble_eq_true rfl)
abbrev s12 : Stmt := inClass (top 13) 0
theorem xc12 {K : Frag} {C f cda cc : Addr} {oc : Value} {od an : Option Addr} {osl : Array (Option Value)} {kV doc pm ct : Value} (h : xcChk P K C f cda cc "BadLine.__init__" ["word"] = true)
    (l : K.lookup f = some ⟨oc, od, .func (ksFn "__init__" "BadLine.__init__" (defArgs s12) (defBody s12) (defScope s12) .none kV doc pm an (.ref cda) ct cc), osl⟩) : XcK P K C f s12 ["word"] :=
  xck_of h l (by decide +kernel) ⟨rfl, rfl, rfl, by decide +kernel, rfl, rfl, rfl, by decide +kernel⟩ ⟨_, rfl, rfl⟩
theorem xi12P {w : World} {K : Frag} {mg : Str → Option Value} {C f : Addr} (X : XcK P K C f s12 ["word"]) (gs : mg "super" = none) : XcI P w K mg C ["word"] fmP :=
  xcI X (ini1 X gs rfl (fun s e vs qual kV doc pm an cd ct cc hl => match vs, hl with | [_], _ => BindsTo.of_eq rfl) (fun _ _ _ _ => ⟨_, rfl⟩) (fun _ _ _ _ => ⟨rfl, rfl⟩) (by decide) (by decide)) (fun vs hl => match vs, hl with | [_], _ => Nat.le_of_ble_eq_true rfl)
theorem xi12K {w : World} {K : Frag} {mg : Str → Option Value} {C f : Addr} (X : XcK P K C f s12 ["word"]) (gs : mg "super" = none) : XcI P w K mg C ["word"] (fmK ["word"]) :=
  xcI X (ini1 X gs rfl (fun s e vs qual kV doc pm an cd ct cc hl => match vs, hl with | [_], _ => BindsTo.of_eq rfl) (fun _ _ _ _ => ⟨_, rfl⟩) (fun _ _ _ _ => ⟨rfl, rfl⟩) (by decide) (by decide)) (fun vs hl => match vs, hl with | [_], _ => Nat.le_of_ble_eq_true rfl)
abbrev s13 : Stmt := inClass (top 14) 0
theorem xc13 {K : Frag} {C f cda cc : Addr} {oc : Value} {od an : Option Addr} {osl : Array (Option Value)} {kV doc pm ct : Value} (h : xcChk P K C f cda cc "NoName.__init__" ["name"] = true)
    (l : K.lookup f = some ⟨oc, od, .func (ksFn "__init__" "NoName.__init__" (defArgs s13) (defBody s13) (defScope s13) .none kV doc pm an (.ref cda) ct cc), osl⟩) : XcK P K C f s13 ["name"] :=
  xck_of h l (by decide +kernel) ⟨rfl, rfl, rfl, by decide +kernel, rfl, rfl, rfl, by decide +kernel⟩ ⟨_, rfl, rfl⟩
theorem xi13P {w : World} {K : Frag} {mg : Str → Option Value} {C f : Addr} (X : XcK P K C f s13 ["name"]) (gs : mg "super" = none) : XcI P w K mg C ["name"] fmP :=
  xcI X (ini1 X gs rfl (fun s e vs qual kV doc pm an cd ct cc hl => match vs, hl with | [_], _ => BindsTo.of_eq rfl) (fun _ _ _ _ => ⟨_, rfl⟩) (fun _ _ _ _ => ⟨rfl, rfl⟩) (by decide) (by decide)) (fun vs hl => match vs, hl with | [_], _ => Nat.le_of_ble_eq_true rfl)
theorem xi13K {w : World} {K : Frag} {mg : Str → Option Value} {C f : Addr} (X : XcK P K C f s13 ["name"]) (gs : mg "super" = none) : XcI P w K mg C ["name"] (fmK ["name"]) :=
  xcI X (ini1 X gs rfl (fun s e vs qual kV doc pm an cd ct cc hl => match vs, hl with | [_], _ => BindsTo.of_eq rfl) (fun _ _ _ _ => ⟨_, rfl⟩) (fun _ _ _ _ => ⟨rfl, rfl⟩) (by decide) (by decide)) (fun vs hl => match vs, hl with | [_], _ => Nat.le_of_ble_eq_true rfl)
abbrev s14 : Stmt := inClass (top 15) 0
theorem xc14 {K : Frag} {C f cda cc : Addr} {oc : Value} {od an : Option Addr} {osl : Array (Option Value)} {kV doc pm ct : Value} (h : xcChk P K C f cda cc "NoPlace.__init__" ["at"] = true)
    (l : K.lookup f = some ⟨oc, od, .func (ksFn "__init__" "NoPlace.__init__" (defArgs s14) (defBody s14) (defScope s14) .none kV doc pm an (.ref cda) ct cc), osl⟩) : XcK P K C f s14 ["at"] :=
  xck_of h l (by decide +kernel) ⟨rfl, rfl, rfl, by decide +kernel, rfl, rfl, rfl, by decide +kernel⟩ ⟨_, rfl, rfl⟩
theorem xi14P {w : World} {K : Frag} {mg : Str → Option Value} {C f : Addr} (X : XcK P K C f s14 ["at"]) (gs : mg "super" = none) : XcI P w K mg C ["at"] fmP :=
  xcI X (ini1 X gs rfl (fun s e vs qual kV doc pm an cd ct cc hl => match vs, hl with | [_], _ => BindsTo.of_eq rfl) (fun _ _ _ _ => ⟨_, rfl⟩) (fun _ _ _ _ => ⟨rfl, rfl⟩) (by decide) (by decide)) (fun vs hl => match vs, hl with | [_], _ => Nat.le_of_ble_eq_true rfl)
theorem xi14K {w : World} {K : Frag} {mg : Str → Option Value} {C f : Addr} (X : XcK P K C f s14 ["at"]) (gs : mg "super" = none) : XcI P w K mg C ["at"] (fmK ["at"]) :=
  xcI X (ini1 X gs rfl (fun s e vs qual kV doc pm an cd ct cc hl => match vs, hl with | [_], _ => BindsTo.of_eq rfl) (fun _ _ _ _ => ⟨_, rfl⟩) (fun _ _ _ _ => ⟨rfl, rfl⟩) (by decide) (by decide)) (fun vs hl => match vs, hl with | [_], _ => Nat.le_of_ble_eq_true rfl)
abbrev s15 : Stmt := inClass (top 16) 0
theorem xc15 {K : Frag} {C f cda cc : Addr} {oc : Value} {od an : Option Addr} {osl : Array (Option Value)} {kV doc pm ct : Value} (h : xcChk P K C f cda cc "Taken.__init__" ["name"] = true)
    (l : K.lookup f = some ⟨oc, od, .func (ksFn "__init__" "Taken.__init__" (defArgs s15) (defBody s15) (defScope s15) .none kV doc pm an (.ref cda) ct cc), osl⟩) : XcK P K C f s15 ["name"] :=
  xck_of h l (by decide +kernel) ⟨rfl, rfl, rfl, by decide +kernel, rfl, rfl, rfl, by decide +kernel⟩ ⟨_, rfl, rfl⟩
theorem xi15P {w : World} {K : Frag} {mg : Str → Option Value} {C f : Addr} (X : XcK P K C f s15 ["name"]) (gs : mg "super" = none) : XcI P w K mg C ["name"] fmP :=
  xcI X (ini1 X gs rfl (fun s e vs qual kV doc pm an cd ct cc hl => match vs, hl with | [_], _ => BindsTo.of_eq rfl) (fun _ _ _ _ => ⟨_, rfl⟩) (fun _ _ _ _ => ⟨rfl, rfl⟩) (by decide) (by decide)) (fun vs hl => match vs, hl with | [_], _ => Nat.le_of_ble_eq_true rfl)
theorem xi15K {w : World} {K : Frag} {mg : Str → Option Value} {C f : Addr} (X : XcK P K C f s15 ["name"]) (gs : mg "super" = none) : XcI P w K mg C ["name"] (fmK ["name"]) :=
  xcI X (ini1 X gs rfl (fun s e vs qual kV doc pm an cd ct cc hl => match vs, hl with | [_], _ => BindsTo.of_eq rfl) (fun _ _ _ _ => ⟨_, rfl⟩) (fun _ _ _ _ => ⟨rfl, rfl⟩) (by decide) (by decide)) (fun vs hl => match vs, hl with | [_], _ => Nat.le_of_ble_eq_true rfl)
abbrev s16 : Stmt := inClass (top 17) 0
theorem xc16 {K : Frag} {C f cda cc : Addr} {oc : Value} {od an : Option Addr} {osl : Array (Option Value)} {kV doc pm ct : Value} (h : xcChk P K C f cda cc "Unlike.__init__" ["part"] = true)
    (l : K.lookup f = some ⟨oc, od, .func (ksFn "__init__" "Unlike.__init__" (defArgs s16) (defBody s16) (defScope s16) .none kV doc pm an (.ref cda) ct cc), osl⟩) : XcK P K C f s16 ["part"] :=
  xck_of h l (by decide +kernel) ⟨rfl, rfl, rfl, by decide +kernel, rfl, rfl, rfl, by decide +kernel⟩ ⟨_, rfl, rfl⟩
theorem xi16P {w : World} {K : Frag} {mg : Str → Option Value} {C f : Addr} (X : XcK P K C f s16 ["part"]) (gs : mg "super" = none) : XcI P w K mg C ["part"] fmP :=
  xcI X (ini1 X gs rfl (fun s e vs qual kV doc pm an cd ct cc hl => match vs, hl with | [_], _ => BindsTo.of_eq rfl) (fun _ _ _ _ => ⟨_, rfl⟩) (fun _ _ _ _ => ⟨rfl, rfl⟩) (by decide) (by decide)) (fun vs hl => match vs, hl with | [_], _ => Nat.le_of_ble_eq_true rfl)
theorem xi16K {w : World} {K : Frag} {mg : Str → Option Value} {C f : Addr} (X : XcK P K C f s16 ["part"]) (gs : mg "super" = none) : XcI P w K mg C ["part"] (fmK ["part"]) :=
  xcI X (ini1 X gs rfl (fun s e vs qual kV doc pm an cd ct cc hl => match vs, hl with | [_], _ => BindsTo.of_eq rfl) (fun _ _ _ _ => ⟨_, rfl⟩) (fun _ _ _ _ => ⟨rfl, rfl⟩) (by decide) (by decide)) (fun vs hl => match vs, hl with | [_], _ => Nat.le_of_ble_eq_true rfl)
abbrev s17 : Stmt := inClass (top 18) 0
theorem xc17 {K : Frag} {C f cda cc : Addr} {oc : Value} {od an : Option Addr} {osl : Array (Option Value)} {kV doc pm ct : Value} (h : xcChk P K C f cda cc "TooMany.__init__" ["what", "most"] = true)
    (l : K.lookup f = some ⟨oc, od, .func (ksFn "__init__" "TooMany.__init__" (defArgs s17) (defBody s17) (defScope s17) .none kV doc pm an (.ref cda) ct cc), osl⟩) : XcK P K C f s17 ["what", "most"] :=
  xck_of h l (by decide +kernel) ⟨rfl, rfl, rfl, by decide +kernel, rfl, rfl, rfl, by decide +kernel⟩ ⟨_, rfl, rfl⟩
theorem xi17P {w : World} {K : Frag} {mg : Str → Option Value} {C f : Addr} (X : XcK P K C f s17 ["what", "most"]) (gs : mg "super" = none) : XcI P w K mg C ["what", "most"] fmP :=
  xcI X (ini2 X gs rfl (fun s e vs qual kV doc pm an cd ct cc hl => match vs, hl with | [_, _], _ => BindsTo.of_eq rfl) (fun _ _ _ _ => ⟨_, rfl⟩) (fun _ _ _ _ => ⟨rfl, rfl, rfl⟩) (by decide) (by decide)) (fun vs hl => match vs, hl with | [_, _], _ => Nat.le_of_ble_eq_true rfl)
theorem xi17S {w : World} {K : Frag} {mg : Str → Option Value} {C f : Addr} (X : XcK P K C f s17 ["what", "most"]) (gs : mg "super" = none) : XcI P w K mg C ["what", "most"] (fmS "what" "most") :=
  xcI X (ini2 X gs rfl (fun s e vs qual kV doc pm an cd ct cc hl => match vs, hl with | [_, _], _ => BindsTo.of_eq rfl) (fun _ _ _ _ => ⟨_, rfl⟩) (fun _ _ _ _ => ⟨rfl, rfl, rfl⟩) (by decide) (by decide)) (fun vs hl => match vs, hl with | [_, _], _ => Nat.le_of_ble_eq_true rfl)
abbrev s18 : Stmt := inClass (top 19) 0
theorem xc18 {K : Frag} {C f cda cc : Addr} {oc : Value} {od an : Option Addr} {osl : Array (Option Value)} {kV doc pm ct : Value} (h : xcChk P K C f cda cc "NoChange.__init__" [] = true)
    (l : K.lookup f = some ⟨oc, od, .func (ksFn "__init__" "NoChange.__init__" (defArgs s18) (defBody s18) (defScope s18) .none kV doc pm an (.ref cda) ct cc), osl⟩) : XcK P K C f s18 [] :=
  xck_of h l (by decide +kernel) ⟨rfl, rfl, rfl, by decide +kernel, rfl, rfl, rfl, by decide +kernel⟩ ⟨_, rfl, rfl⟩
theorem xi18P {w : World} {K : Frag} {mg : Str → Option Value} {C f : Addr} (X : XcK P K C f s18 []) (gs : mg "super" = none) : XcI P w K mg C [] fmP :=
  xcI X (ini0 X gs rfl (fun s e vs qual kV doc pm an cd ct cc hl => match vs, hl with | [], _ => BindsTo.of_eq rfl) (fun _ _ _ _ => ⟨_, rfl⟩) (fun _ _ _ _ => rfl)) (fun vs hl => match vs, hl with | [], _ => Nat.le_of_ble_eq_true rfl)
end K01

set_option Elab.async false
set_option linter.all false
set_option maxRecDepth 100000
set_option maxHeartbeats 40000000
namespace K01
open PySem L2 PySem.W PySem.HandSPX DL

theorem nd_draw : (["_law_pen_here", "_law_many", "_law_begun", "_law_raw", "_law_stirred", "_law_digit", "_law_great"] : List Str).Nodup := by decide
def b_draw : Σ' fs : FS, ∀ {w : World} {K : Frag} {mg : Str → Option Value} {base : Heap} {cs : List Addr} (T : Tx w K mg cs) , Body P w K mg base (gOf K cs) 0 ["_law_pen_here", "_law_many", "_law_begun", "_law_raw", "_law_stirred", "_law_digit", "_law_great"] "_law_draw" (top 22) fs :=
  ⟨_, fun {w K mg base cs} T  f m cdv A fr s H E hr tk po => (ds_cons (ds_if (dt_cmp opd_gt (d_pen (d_var 0)) d_int (nomark _))
      (ds_cons (ds_set 5 nd_draw (d_op opd_mod (d_callTy calld_int (T.z "int" (by decide +kernel)) (by decide +kernel) (da_cons (d_pen (d_var 0)) da_nil)) (d_var 1)))
      (ds_cons (ds_penSet (d_op opd_div (d_callTy calld_int (T.z "int" (by decide +kernel)) (by decide +kernel) (da_cons (d_pen (d_var 0)) da_nil)) (d_var 1)) (d_var 0))
      (ds_one (ds_ret (d_var 5)))))
      ds_nil)
      (ds_cons (ds_set 2 nd_draw (d_pen (d_var 0)))
      (ds_cons (ds_penSet (d_op opd_add (d_var 2) d_int) (d_var 0))
      (ds_cons (ds_set 3 nd_draw (d_op opd_add (d_op opd_mul d_int (d_var 2)) d_int))
      (ds_cons (ds_if (dt_cmp (opd_ne hr) (d_pen (d_var 0)) (d_lst da_nil) (nomark _))
      (ds_one (ds_set 3 nd_draw (d_ix (d_pen (d_var 0)) (d_op opd_mod (d_callTy calld_int (T.z "int" (by decide +kernel)) (by decide +kernel) (da_cons (d_var 2) da_nil)) (d_callB calld_len (T.z "len" (by decide +kernel)) PySem.boot_len (da_cons (d_pen (d_var 0)) da_nil))))))
      ds_nil)
      (ds_cons (ds_if (PW.pt (dw_and (dt_cmp opd_lt (d_var 2) (d_callB calld_len (T.z "len" (by decide +kernel)) PySem.boot_len (da_cons (d_pen (d_var 0)) da_nil)) (nomark _)) (dw_and1 (dt_cmp opd_ge (d_callB calld_abs (T.z "abs" (by decide +kernel)) (by decide +kernel) (da_cons (d_var 3) da_nil)) (d_op opd_pow d_int d_int) (nomark _)))))
      (ds_cons (ds_set 6 nd_draw (d_op opd_add (d_op opd_mul d_int (d_op opd_sub (d_callB calld_abs (T.z "abs" (by decide +kernel)) (by decide +kernel) (da_cons (d_var 3) da_nil)) (d_op opd_pow d_int d_int))) (d_callTy calld_int (T.z "int" (by decide +kernel)) (by decide +kernel) (da_cons (d_cmp opd_lt (d_var 3) d_int (nomark _)) da_nil))))
      (ds_cons (ds_penSet (d_op opd_div (d_callTy calld_int (T.z "int" (by decide +kernel)) (by decide +kernel) (da_cons (d_var 6) da_nil)) (d_var 1)) (d_var 0))
      (ds_one (ds_ret (d_op opd_mod (d_callTy calld_int (T.z "int" (by decide +kernel)) (by decide +kernel) (da_cons (d_var 6) da_nil)) (d_var 1))))))
      ds_nil)
      (ds_cons (ds_set 4 nd_draw (d_op opd_mod (d_callTy calld_int (T.z "int" (by decide +kernel)) (by decide +kernel) (da_cons (d_op opd_pow (d_op opd_add (d_op opd_add (d_op opd_mod (d_callTy calld_int (T.z "int" (by decide +kernel)) (by decide +kernel) (da_cons (d_var 3) da_nil)) d_int) (d_op opd_mul d_int (d_var 2))) d_int) d_int) da_nil)) d_int))
      (ds_cons (ds_set 4 nd_draw (d_op opd_mod (d_callTy calld_int (T.z "int" (by decide +kernel)) (by decide +kernel) (da_cons (d_op opd_pow (d_op opd_add (d_op opd_add (d_op opd_mul (d_var 4) (d_op opd_add (d_op opd_mul d_int (d_var 2)) d_int)) (d_op opd_mul (d_op opd_mul d_int (d_var 2)) (d_var 2))) d_int) d_int) da_nil)) d_int))
      (ds_one (ds_ret (d_op opd_mod (d_callTy calld_int (T.z "int" (by decide +kernel)) (by decide +kernel) (da_cons (d_op opd_div (d_var 4) d_int) da_nil)) (d_var 1))))))))))))⟩
def m_draw : List D → Pn → R D := mir 2 7 b_draw.1
theorem S_draw : FnScope ["_law_pen_here", "_law_many", "_law_begun", "_law_raw", "_law_stirred", "_law_digit", "_law_great"] ["_law_pen_here", "_law_many"] (defScope (top 22)) := ⟨rfl, rfl, rfl, by decide, rfl, by decide +kernel, by decide +kernel⟩
theorem nd_pick : (["_law_pen_here", "_law_some"] : List Str).Nodup := by decide
def b_pick : Σ' fs : FS, ∀ {w : World} {K : Frag} {mg : Str → Option Value} {base : Heap} {cs : List Addr} (T : Tx w K mg cs) (C_draw : Cal P w K mg base 1 "_law_draw" ["_law_pen_here", "_law_many"] (SpD (gOf K cs) 2 m_draw)), Body P w K mg base (gOf K cs) 1 ["_law_pen_here", "_law_some"] "_law_pick" (top 23) fs :=
  ⟨_, fun {w K mg base cs} T C_draw f m cdv A fr s H E hr tk po => (ds_one (ds_ret (d_ix (d_var 1) (d_callC C_draw (hr.mono (by decide)) tk rfl (da_cons (d_var 0) (da_cons (d_callB calld_len (T.z "len" (by decide +kernel)) PySem.boot_len (da_cons (d_var 1) da_nil)) da_nil)) (flen_cons (flen_cons flen_nil))))))⟩
def m_pick : List D → Pn → R D := mir 2 2 b_pick.1
theorem S_pick : FnScope ["_law_pen_here", "_law_some"] ["_law_pen_here", "_law_some"] (defScope (top 23)) := ⟨rfl, rfl, rfl, by decide, rfl, by decide +kernel, by decide +kernel⟩
theorem nd_thing : (["_law_pen_here", "_law_some"] : List Str).Nodup := by decide
def b_thing : Σ' fs : FS, ∀ {w : World} {K : Frag} {mg : Str → Option Value} {base : Heap} {cs : List Addr} (T : Tx w K mg cs) (C_pick : Cal P w K mg base 2 "_law_pick" ["_law_pen_here", "_law_some"] (SpD (gOf K cs) 2 m_pick)), Body P w K mg base (gOf K cs) 2 ["_law_pen_here", "_law_some"] "_law_thing" (top 24) fs :=
  ⟨_, fun {w K mg base cs} T C_pick f m cdv A fr s H E hr tk po => (ds_cons (ds_set 1 nd_thing (d_lst (da_cons d_non (da_cons d_int (da_cons d_int (da_cons d_bl (da_cons d_bl (da_cons d_str (da_cons d_str (da_cons d_str (da_cons (d_tup da_nil) (da_cons (d_tup (da_cons d_int (da_cons d_int da_nil))) (da_cons (d_lst da_nil) (da_cons (d_lst (da_cons d_int da_nil)) (da_cons d_dict0 (da_cons d_dict1 (da_cons (d_op opd_pow d_int d_int) (da_cons (d_un und_neg d_int) da_nil))))))))))))))))))
      (ds_one (ds_ret (d_callC C_pick (hr.mono (by decide)) tk rfl (da_cons (d_var 0) (da_cons (d_var 1) da_nil)) (flen_cons (flen_cons flen_nil))))))⟩
def m_thing : List D → Pn → R D := mir 1 2 b_thing.1
theorem S_thing : FnScope ["_law_pen_here", "_law_some"] ["_law_pen_here"] (defScope (top 24)) := ⟨rfl, rfl, rfl, by decide, rfl, by decide +kernel, by decide +kernel⟩
theorem nd_classes : (["_law_error", "_law_found"] : List Str).Nodup := by decide
def b_classes : Σ' fs : FS, ∀ {w : World} {K : Frag} {mg : Str → Option Value} {base : Heap} {cs : List Addr} (T : Tx w K mg cs) , Body P w K mg base (gOf K cs) 0 ["_law_error", "_law_found"] "_law_classes" (top 25) fs :=
  ⟨_, fun {w K mg base cs} T  f m cdv A fr s H E hr tk po => (ds_cons (ds_set 1 nd_classes (d_lst (da_cons (d_callB (calld_isi T.kit) (T.z "isinstance" (by decide +kernel)) (by decide +kernel) (da_cons (d_var 0) (da_cons (d_cls 1 (T.mgc 1 _ rfl)) da_nil))) (da_cons (d_callB (calld_isi T.kit) (T.z "isinstance" (by decide +kernel)) (by decide +kernel) (da_cons (d_var 0) (da_cons (d_cls 2 (T.mgc 2 _ rfl)) da_nil))) (da_cons (d_callB (calld_isi T.kit) (T.z "isinstance" (by decide +kernel)) (by decide +kernel) (da_cons (d_var 0) (da_cons (d_cls 3 (T.mgc 3 _ rfl)) da_nil))) da_nil)))))
      (ds_cons (ds_set 1 nd_classes (d_op opd_add (d_var 1) (d_lst (da_cons (d_callB (calld_isi T.kit) (T.z "isinstance" (by decide +kernel)) (by decide +kernel) (da_cons (d_var 0) (da_cons (d_cls 4 (T.mgc 4 _ rfl)) da_nil))) (da_cons (d_callB (calld_isi T.kit) (T.z "isinstance" (by decide +kernel)) (by decide +kernel) (da_cons (d_var 0) (da_cons (d_cls 5 (T.mgc 5 _ rfl)) da_nil))) (da_cons (d_callB (calld_isi T.kit) (T.z "isinstance" (by decide +kernel)) (by decide +kernel) (da_cons (d_var 0) (da_cons (d_cls 6 (T.mgc 6 _ rfl)) da_nil))) da_nil))))))
      (ds_cons (ds_set 1 nd_classes (d_op opd_add (d_var 1) (d_lst (da_cons (d_callB (calld_isi T.kit) (T.z "isinstance" (by decide +kernel)) (by decide +kernel) (da_cons (d_var 0) (da_cons (d_cls 7 (T.mgc 7 _ rfl)) da_nil))) (da_cons (d_callB (calld_isi T.kit) (T.z "isinstance" (by decide +kernel)) (by decide +kernel) (da_cons (d_var 0) (da_cons (d_cls 9 (T.mgc 9 _ rfl)) da_nil))) (da_cons (d_callB (calld_isi T.kit) (T.z "isinstance" (by decide +kernel)) (by decide +kernel) (da_cons (d_var 0) (da_cons (d_cls 10 (T.mgc 10 _ rfl)) da_nil))) da_nil))))))
      (ds_cons (ds_set 1 nd_classes (d_op opd_add (d_var 1) (d_lst (da_cons (d_callB (calld_isi T.kit) (T.z "isinstance" (by decide +kernel)) (by decide +kernel) (da_cons (d_var 0) (da_cons (d_cls 16 (T.mgc 16 _ rfl)) da_nil))) (da_cons (d_callB (calld_isi T.kit) (T.z "isinstance" (by decide +kernel)) (by decide +kernel) (da_cons (d_var 0) (da_cons (d_cls 8 (T.mgc 8 _ rfl)) da_nil))) (da_cons (d_callB (calld_isi T.kit) (T.z "isinstance" (by decide +kernel)) (by decide +kernel) (da_cons (d_var 0) (da_cons (d_cls 14 (T.mgc 14 _ rfl)) da_nil))) da_nil))))))
      (ds_cons (ds_set 1 nd_classes (d_op opd_add (d_var 1) (d_lst (da_cons (d_callB (calld_isi T.kit) (T.z "isinstance" (by decide +kernel)) (by decide +kernel) (da_cons (d_var 0) (da_cons (d_cls 13 (T.mgc 13 _ rfl)) da_nil))) (da_cons (d_callB (calld_isi T.kit) (T.z "isinstance" (by decide +kernel)) (by decide +kernel) (da_cons (d_var 0) (da_cons (d_cls 15 (T.mgc 15 _ rfl)) da_nil))) (da_cons (d_callB (calld_isi T.kit) (T.z "isinstance" (by decide +kernel)) (by decide +kernel) (da_cons (d_var 0) (da_cons (d_cls 11 (T.mgc 11 _ rfl)) da_nil))) da_nil))))))
      (ds_one (ds_ret (d_op opd_add (d_var 1) (d_lst (da_cons (d_callB (calld_isi T.kit) (T.z "isinstance" (by decide +kernel)) (by decide +kernel) (da_cons (d_var 0) (da_cons (d_cls 12 (T.mgc 12 _ rfl)) da_nil))) (da_cons (d_callB (calld_isi T.kit) (T.z "isinstance" (by decide +kernel)) (by decide +kernel) (da_cons (d_var 0) (da_cons (d_cls 17 (T.mgc 17 _ rfl)) da_nil))) (da_cons (d_callB (calld_isi T.kit) (T.z "isinstance" (by decide +kernel)) (by decide +kernel) (da_cons (d_var 0) (da_cons (d_cls 18 (T.mgc 18 _ rfl)) da_nil))) da_nil))))))))))))⟩
def m_classes : List D → Pn → R D := mir 1 2 b_classes.1
theorem S_classes : FnScope ["_law_error", "_law_found"] ["_law_error"] (defScope (top 25)) := ⟨rfl, rfl, rfl, by decide, rfl, by decide +kernel, by decide +kernel⟩
theorem nd_parted : (["_law_one", "_law_found"] : List Str).Nodup := by decide
def b_parted : Σ' fs : FS, ∀ {w : World} {K : Frag} {mg : Str → Option Value} {base : Heap} {cs : List Addr} (T : Tx w K mg cs) , Body P w K mg base (gOf K cs) 0 ["_law_one", "_law_found"] "_law_parted" (top 26) fs :=
  ⟨_, fun {w K mg base cs} T  f m cdv A fr s H E hr tk po => (ds_cons (ds_set 1 nd_parted (d_lst (da_cons (d_exc (T.xp 3 rfl) hr (T.mgc 3 _ rfl) rfl (da_cons (d_var 0) da_nil)) (da_cons (d_excK1 (T.xk 3 rfl) hr (T.mgc 3 _ rfl) rfl (dk_cons (d_var 0) dk_nil)) (da_cons (d_exc (T.xp 4 rfl) hr (T.mgc 4 _ rfl) rfl (da_cons (d_var 0) da_nil)) (da_cons (d_excK1 (T.xk 4 rfl) hr (T.mgc 4 _ rfl) rfl (dk_cons (d_var 0) dk_nil)) (da_cons (d_exc (T.xp 5 rfl) hr (T.mgc 5 _ rfl) rfl (da_cons (d_var 0) da_nil)) (da_cons (d_excK1 (T.xk 5 rfl) hr (T.mgc 5 _ rfl) rfl (dk_cons (d_var 0) dk_nil)) da_nil))))))))
      (ds_cons (ds_set 1 nd_parted (d_op opd_add (d_var 1) (d_lst (da_cons (d_exc (T.xp 6 rfl) hr (T.mgc 6 _ rfl) rfl (da_cons (d_var 0) da_nil)) (da_cons (d_excK1 (T.xk 6 rfl) hr (T.mgc 6 _ rfl) rfl (dk_cons (d_var 0) dk_nil)) (da_cons (d_exc (T.xp 7 rfl) hr (T.mgc 7 _ rfl) rfl (da_cons (d_var 0) da_nil)) (da_cons (d_excK1 (T.xk 7 rfl) hr (T.mgc 7 _ rfl) rfl (dk_cons (d_var 0) dk_nil)) da_nil)))))))
      (ds_one (ds_ret (d_op opd_add (d_var 1) (d_lst (da_cons (d_exc (T.xp 9 rfl) hr (T.mgc 9 _ rfl) rfl (da_cons (d_var 0) da_nil)) (da_cons (d_excK1 (T.xk 9 rfl) hr (T.mgc 9 _ rfl) rfl (dk_cons (d_var 0) dk_nil)) (da_cons (d_exc (T.xp 10 rfl) hr (T.mgc 10 _ rfl) rfl (da_cons (d_var 0) da_nil)) (da_cons (d_excK1 (T.xk 10 rfl) hr (T.mgc 10 _ rfl) rfl (dk_cons (d_var 0) dk_nil)) (da_cons (d_exc (T.xp 16 rfl) hr (T.mgc 16 _ rfl) rfl (da_cons (d_var 0) da_nil)) (da_cons (d_excK1 (T.xk 16 rfl) hr (T.mgc 16 _ rfl) rfl (dk_cons (d_var 0) dk_nil)) da_nil))))))))))))⟩
def m_parted : List D → Pn → R D := mir 1 2 b_parted.1
theorem S_parted : FnScope ["_law_one", "_law_found"] ["_law_one"] (defScope (top 26)) := ⟨rfl, rfl, rfl, by decide, rfl, by decide +kernel, by decide +kernel⟩
theorem nd_two_right : (["_law_one", "_law_two", "_law_pages", "_law_bounds", "_law_error"] : List Str).Nodup := by decide
def b_two_right : Σ' fs : FS, ∀ {w : World} {K : Frag} {mg : Str → Option Value} {base : Heap} {cs : List Addr} (T : Tx w K mg cs) , Body P w K mg base (gOf K cs) 0 ["_law_one", "_law_two", "_law_pages", "_law_bounds", "_law_error"] "_law_two_right" (top 27) fs :=
  ⟨_, fun {w K mg base cs} T  f m cdv A fr s H E hr tk po => (ds_cons (by first | exact (ds_par 2 3 rfl nd_two_right (da_cons (d_lst (da_cons (d_exc (T.xp 11 rfl) hr (T.mgc 11 _ rfl) rfl (da_cons (d_var 0) (da_cons (d_var 1) da_nil))) (da_cons (d_excK2 (x1 := "line") (x2 := "word") rfl (T.xs 11 _ _ rfl) hr (T.mgc 11 _ rfl) (dk_cons (d_var 1) (dk_cons (d_var 0) dk_nil))) da_nil))) (da_cons (d_lst (da_cons (d_exc (T.xp 17 rfl) hr (T.mgc 17 _ rfl) rfl (da_cons (d_var 0) (da_cons (d_var 1) da_nil))) (da_cons (d_excK2 (x1 := "what") (x2 := "most") rfl (T.xs 17 _ _ rfl) hr (T.mgc 17 _ rfl) (dk_cons (d_var 1) (dk_cons (d_var 0) dk_nil))) da_nil))) da_nil))) | exact (ds_asg (d_tup (da_cons (d_lst (da_cons (d_exc (T.xp 11 rfl) hr (T.mgc 11 _ rfl) rfl (da_cons (d_var 0) (da_cons (d_var 1) da_nil))) (da_cons (d_excK2 (x1 := "line") (x2 := "word") rfl (T.xs 11 _ _ rfl) hr (T.mgc 11 _ rfl) (dk_cons (d_var 1) (dk_cons (d_var 0) dk_nil))) da_nil))) (da_cons (d_lst (da_cons (d_exc (T.xp 17 rfl) hr (T.mgc 17 _ rfl) rfl (da_cons (d_var 0) (da_cons (d_var 1) da_nil))) (da_cons (d_excK2 (x1 := "what") (x2 := "most") rfl (T.xs 17 _ _ rfl) hr (T.mgc 17 _ rfl) (dk_cons (d_var 1) (dk_cons (d_var 0) dk_nil))) da_nil))) da_nil))) (dg_tup (n := 2) rfl rfl (dgs_cons (dg_name 2 nd_two_right) (dgs_cons (dg_name 3 nd_two_right) dgs_nil)))))
      (ds_cons (ds_if (dt_cmp (opd_ne hr) (d_lc (own := [("_law_error", 4)]) rfl nd_two_right (di_items (d_var 2)) (blkOk_by (by kernel_rfl)) (fun _ _ _ _ _ _ => (dc_name 4 (by decide) nd_two_right)) (fun _ _ _ _ _ _ => (dts_one (dt_cmp (opd_ne hr) (d_callB (calld_repr hr) (T.z "repr" (by decide +kernel)) (by decide +kernel) (da_cons (d_lst (da_cons (d_attr noAo (T.ax "line") (d_var 4)) (da_cons (d_attr noAo (T.ax "word") (d_var 4)) da_nil))) da_nil)) (d_callB (calld_repr hr) (T.z "repr" (by decide +kernel)) (by decide +kernel) (da_cons (d_lst (da_cons (d_var 0) (da_cons (d_var 1) da_nil))) da_nil)) (nomark _)))) (fun _ _ _ _ _ _ => d_int)) (d_lst da_nil) (nomark _))
      (ds_one (ds_ret d_bl))
      ds_nil)
      (ds_one (ds_ret (d_cmp (opd_eq hr) (d_lc (own := [("_law_error", 4)]) rfl nd_two_right (di_items (d_var 3)) (blkOk_by (by kernel_rfl)) (fun _ _ _ _ _ _ => (dc_name 4 (by decide) nd_two_right)) (fun _ _ _ _ _ _ => (dts_one (dt_cmp (opd_ne hr) (d_callB (calld_repr hr) (T.z "repr" (by decide +kernel)) (by decide +kernel) (da_cons (d_lst (da_cons (d_attr noAo (T.ax "what") (d_var 4)) (da_cons (d_attr noAo (T.ax "most") (d_var 4)) da_nil))) da_nil)) (d_callB (calld_repr hr) (T.z "repr" (by decide +kernel)) (by decide +kernel) (da_cons (d_lst (da_cons (d_var 0) (da_cons (d_var 1) da_nil))) da_nil)) (nomark _)))) (fun _ _ _ _ _ _ => d_int)) (d_lst da_nil) (nomark _))))))⟩
def m_two_right : List D → Pn → R D := mir 2 5 b_two_right.1
theorem S_two_right : FnScope ["_law_one", "_law_two", "_law_pages", "_law_bounds", "_law_error"] ["_law_one", "_law_two"] (defScope (top 27)) := ⟨rfl, rfl, rfl, by decide, rfl, by decide +kernel, by decide +kernel⟩
abbrev nLaw : List Str := ["_law_script", "_law_pen_here", "_law_turn", "_law_valued", "_law_named", "_law_lines", "_law_rows", "_law_one", "_law_two", "_law_placed", "_law_spot", "_law_error", "_law_number"]
theorem nd_law : nLaw.Nodup := by decide
def b_law : Σ' p : FS × FS × FS × FS × FS × FS × FS × FS × FS × FS × FS × FS × FS, ∀ {w : World} {K : Frag} {mg : Str → Option Value} {base : Heap} {cs : List Addr} (T : Tx w K mg cs) (C_thing : Cal P w K mg base 3 "_law_thing" ["_law_pen_here"] (SpD (gOf K cs) 1 m_thing)) (C_classes : Cal P w K mg base 1 "_law_classes" ["_law_error"] (SpD (gOf K cs) 1 m_classes)) (C_parted : Cal P w K mg base 1 "_law_parted" ["_law_one"] (SpD (gOf K cs) 1 m_parted)) (C_two_right : Cal P w K mg base 1 "_law_two_right" ["_law_one", "_law_two"] (SpD (gOf K cs) 2 m_two_right)) (f : Addr) (m : Mw) (cdv : Value) (A : Around) (fr : List Env) (s : Shared) (H : Hp) (E : XK), RoomG 3 (A.deeper (PyProof.Rows.envOfC "law" (defScope (top 28)) s.heap.objs.size f cdv)) →
      Takes (cxOf (CX P w) P w K mg base nLaw "law" (defScope (top 28)) f cdv A fr s H E) (fun c d _ H' => E c d H') →
      PassesOwn (model P w) (A.deeper (PyProof.Rows.envOfC "law" (defScope (top 28)) s.heap.objs.size f cdv)) (PyProof.Rows.envOfC "law" (defScope (top 28)) s.heap.objs.size f cdv) (cxOf (CX P w) P w K mg base nLaw "law" (defScope (top 28)) f cdv A fr s H E).xe →
      PSs (cxOf (CX P w) P w K mg base nLaw "law" (defScope (top 28)) f cdv A fr s H E) ((defBody (top 28)).drop 1) (tDS (gOf K cs) m (fun c d _ H' => E c d H') (fSeq (fFor (fRng1 (fCons (fC (.int 6)) fNil)) (gN 2) (fSeq p.1 (fSeq p.2.1 (fSeq p.2.2.1 (fSeq p.2.2.2.1 (fSeq p.2.2.2.2.1 (fSeq p.2.2.2.2.2.1 (fSeq p.2.2.2.2.2.2.1 (fSeq p.2.2.2.2.2.2.2.1 (fSeq p.2.2.2.2.2.2.2.2.1 (fSeq p.2.2.2.2.2.2.2.2.2.1 (fSeq p.2.2.2.2.2.2.2.2.2.2.1 p.2.2.2.2.2.2.2.2.2.2.2.1)))))))))))) p.2.2.2.2.2.2.2.2.2.2.2.2)) :=
  ⟨(_, _, _, _, _, _, _, _, _, _, _, _, _), fun {w K mg base cs} T C_thing C_classes C_parted C_two_right f m cdv A fr s H E hr tk po => (ds_cons (ds_for po rfl (di_range1 rfl (T.z "range" (by decide +kernel)) (da_cons d_int da_nil)) (dg_name 2 nd_law)
      (ds_cons (by first | exact (ds_par 7 8 rfl nd_law (da_cons (d_callC C_thing (hr.mono (by decide)) tk rfl (da_cons (d_var 1) da_nil) (flen_cons flen_nil)) (da_cons (d_callC C_thing (hr.mono (by decide)) tk rfl (da_cons (d_var 1) da_nil) (flen_cons flen_nil)) da_nil))) | exact (ds_asg (d_tup (da_cons (d_callC C_thing (hr.mono (by decide)) tk rfl (da_cons (d_var 1) da_nil) (flen_cons flen_nil)) (da_cons (d_callC C_thing (hr.mono (by decide)) tk rfl (da_cons (d_var 1) da_nil) (flen_cons flen_nil)) da_nil))) (dg_tup (n := 2) rfl rfl (dgs_cons (dg_name 7 nd_law) (dgs_cons (dg_name 8 nd_law) dgs_nil)))))
      (ds_cons (ds_set 3 nd_law (d_lst (da_cons (d_exc (T.xp 1 rfl) hr (T.mgc 1 _ rfl) rfl (da_cons (d_var 7) da_nil)) (da_cons (d_excK1 (T.xk 1 rfl) hr (T.mgc 1 _ rfl) rfl (dk_cons (d_var 7) dk_nil)) (da_cons (d_exc (T.xp 2 rfl) hr (T.mgc 2 _ rfl) rfl (da_cons (d_var 7) da_nil)) (da_cons (d_excK1 (T.xk 2 rfl) hr (T.mgc 2 _ rfl) rfl (dk_cons (d_var 7) dk_nil)) da_nil))))))
      (ds_cons (by first | exact (ds_par 9 4 rfl nd_law (da_cons (d_lst (da_cons (d_exc (T.xp 8 rfl) hr (T.mgc 8 _ rfl) rfl (da_cons (d_var 7) da_nil)) (da_cons (d_excK1 (T.xk 8 rfl) hr (T.mgc 8 _ rfl) rfl (dk_cons (d_var 7) dk_nil)) (da_cons (d_exc (T.xp 14 rfl) hr (T.mgc 14 _ rfl) rfl (da_cons (d_var 7) da_nil)) (da_cons (d_excK1 (T.xk 14 rfl) hr (T.mgc 14 _ rfl) rfl (dk_cons (d_var 7) dk_nil)) da_nil))))) (da_cons (d_lst (da_cons (d_exc (T.xp 13 rfl) hr (T.mgc 13 _ rfl) rfl (da_cons (d_var 7) da_nil)) (da_cons (d_excK1 (T.xk 13 rfl) hr (T.mgc 13 _ rfl) rfl (dk_cons (d_var 7) dk_nil)) da_nil))) da_nil))) | exact (ds_asg (d_tup (da_cons (d_lst (da_cons (d_exc (T.xp 8 rfl) hr (T.mgc 8 _ rfl) rfl (da_cons (d_var 7) da_nil)) (da_cons (d_excK1 (T.xk 8 rfl) hr (T.mgc 8 _ rfl) rfl (dk_cons (d_var 7) dk_nil)) (da_cons (d_exc (T.xp 14 rfl) hr (T.mgc 14 _ rfl) rfl (da_cons (d_var 7) da_nil)) (da_cons (d_excK1 (T.xk 14 rfl) hr (T.mgc 14 _ rfl) rfl (dk_cons (d_var 7) dk_nil)) da_nil))))) (da_cons (d_lst (da_cons (d_exc (T.xp 13 rfl) hr (T.mgc 13 _ rfl) rfl (da_cons (d_var 7) da_nil)) (da_cons (d_excK1 (T.xk 13 rfl) hr (T.mgc 13 _ rfl) rfl (dk_cons (d_var 7) dk_nil)) da_nil))) da_nil))) (dg_tup (n := 2) rfl rfl (dgs_cons (dg_name 9 nd_law) (dgs_cons (dg_name 4 nd_law) dgs_nil)))))
      (ds_cons (ds_set 4 nd_law (d_op opd_add (d_var 4) (d_lst (da_cons (d_exc (T.xp 15 rfl) hr (T.mgc 15 _ rfl) rfl (da_cons (d_var 7) da_nil)) (da_cons (d_excK1 (T.xk 15 rfl) hr (T.mgc 15 _ rfl) rfl (dk_cons (d_var 7) dk_nil)) da_nil)))))
      (ds_cons (ds_if (PW.pt (dw_or (dt_cmp (opd_ne hr) (d_lc (own := [("_law_error", 11)]) rfl nd_law (di_items (d_var 3)) (blkOk_by (by kernel_rfl)) (fun _ _ _ _ _ _ => (dc_name 11 (by decide) nd_law)) (fun _ _ _ _ _ _ => (dts_one (dt_cmp (opd_ne hr) (d_callB (calld_repr hr) (T.z "repr" (by decide +kernel)) (by decide +kernel) (da_cons (d_attr noAo (T.ax "value") (d_var 11)) da_nil)) (d_callB (calld_repr hr) (T.z "repr" (by decide +kernel)) (by decide +kernel) (da_cons (d_var 7) da_nil)) (nomark _)))) (fun _ _ _ _ _ _ => d_int)) (d_lst da_nil) (nomark _)) (dw_or1 (dt_not (dt_val (d_callC C_two_right (hr.mono (by decide)) tk rfl (da_cons (d_var 7) (da_cons (d_var 8) da_nil)) (flen_cons (flen_cons flen_nil))))))))
      (ds_one (ds_ret d_bl))
      ds_nil)
      (ds_cons (ds_if (dt_cmp (opd_ne hr) (d_lc (own := [("_law_error", 11)]) rfl nd_law (di_items (d_callC C_parted (hr.mono (by decide)) tk rfl (da_cons (d_var 7) da_nil) (flen_cons flen_nil))) (blkOk_by (by kernel_rfl)) (fun _ _ _ _ _ _ => (dc_name 11 (by decide) nd_law)) (fun _ _ _ _ _ _ => (dts_one (dt_cmp (opd_ne hr) (d_callB (calld_repr hr) (T.z "repr" (by decide +kernel)) (by decide +kernel) (da_cons (d_attr noAo (T.ax "part") (d_var 11)) da_nil)) (d_callB (calld_repr hr) (T.z "repr" (by decide +kernel)) (by decide +kernel) (da_cons (d_var 7) da_nil)) (nomark _)))) (fun _ _ _ _ _ _ => d_int)) (d_lst da_nil) (nomark _))
      (ds_one (ds_ret d_bl))
      ds_nil)
      (ds_cons (ds_if (dt_cmp (opd_ne hr) (d_op opd_add (d_lc (own := [("_law_error", 11)]) rfl nd_law (di_items (d_var 9)) (blkOk_by (by kernel_rfl)) (fun _ _ _ _ _ _ => (dc_name 11 (by decide) nd_law)) (fun _ _ _ _ _ _ => (dts_one (dt_cmp (opd_ne hr) (d_callB (calld_repr hr) (T.z "repr" (by decide +kernel)) (by decide +kernel) (da_cons (d_attr noAo (T.ax "at") (d_var 11)) da_nil)) (d_callB (calld_repr hr) (T.z "repr" (by decide +kernel)) (by decide +kernel) (da_cons (d_var 7) da_nil)) (nomark _)))) (fun _ _ _ _ _ _ => d_int)) (d_lc (own := [("_law_error", 11)]) rfl nd_law (di_items (d_var 4)) (blkOk_by (by kernel_rfl)) (fun _ _ _ _ _ _ => (dc_name 11 (by decide) nd_law)) (fun _ _ _ _ _ _ => (dts_one (dt_cmp (opd_ne hr) (d_callB (calld_repr hr) (T.z "repr" (by decide +kernel)) (by decide +kernel) (da_cons (d_attr noAo (T.ax "name") (d_var 11)) da_nil)) (d_callB (calld_repr hr) (T.z "repr" (by decide +kernel)) (by decide +kernel) (da_cons (d_var 7) da_nil)) (nomark _)))) (fun _ _ _ _ _ _ => d_int))) (d_lst da_nil) (nomark _))
      (ds_one (ds_ret d_bl))
      ds_nil)
      (ds_cons (ds_set 5 nd_law (d_lst (da_cons (d_exc (T.xp 12 rfl) hr (T.mgc 12 _ rfl) rfl (da_cons (d_var 7) da_nil)) (da_cons (d_excK1 (T.xk 12 rfl) hr (T.mgc 12 _ rfl) rfl (dk_cons (d_var 7) dk_nil)) da_nil))))
      (ds_cons (ds_if (dt_cmp (opd_ne hr) (d_lc (own := [("_law_error", 11)]) rfl nd_law (di_items (d_var 5)) (blkOk_by (by kernel_rfl)) (fun _ _ _ _ _ _ => (dc_name 11 (by decide) nd_law)) (fun _ _ _ _ _ _ => (dts_one (dt_cmp (opd_ne hr) (d_callB (calld_repr hr) (T.z "repr" (by decide +kernel)) (by decide +kernel) (da_cons (d_attr noAo (T.ax "word") (d_var 11)) da_nil)) (d_callB (calld_repr hr) (T.z "repr" (by decide +kernel)) (by decide +kernel) (da_cons (d_var 7) da_nil)) (nomark _)))) (fun _ _ _ _ _ _ => d_int)) (d_lst da_nil) (nomark _))
      (ds_one (ds_ret d_bl))
      ds_nil)
      (ds_cons (ds_set 6 nd_law (d_op opd_add (d_op opd_add (d_op opd_add (d_op opd_add (d_op opd_add (d_var 3) (d_callC C_parted (hr.mono (by decide)) tk rfl (da_cons (d_var 7) da_nil) (flen_cons flen_nil))) (d_var 9)) (d_var 4)) (d_lst (da_cons (d_exc (T.xp 11 rfl) hr (T.mgc 11 _ rfl) rfl (da_cons (d_var 7) (da_cons (d_var 8) da_nil))) (da_cons (d_exc (T.xp 11 rfl) hr (T.mgc 11 _ rfl) rfl (da_cons (d_var 8) (da_cons (d_var 7) da_nil))) da_nil)))) (d_var 5)))
      (ds_cons (ds_set 6 nd_law (d_op opd_add (d_var 6) (d_lst (da_cons (d_exc (T.xp 17 rfl) hr (T.mgc 17 _ rfl) rfl (da_cons (d_var 7) (da_cons (d_var 8) da_nil))) (da_cons (d_exc (T.xp 17 rfl) hr (T.mgc 17 _ rfl) rfl (da_cons (d_var 8) (da_cons (d_var 7) da_nil))) (da_cons (d_exc0 (T.xp 18 rfl) hr (T.mgc 18 _ rfl) rfl) (da_cons (d_exc0 (T.xp 18 rfl) hr (T.mgc 18 _ rfl) rfl) da_nil)))))))
      (ds_one (ds_for po rfl (di_enum (T.z "enumerate" (by decide +kernel)) (da_cons (d_var 6) da_nil)) (dg_tup (n := 2) rfl rfl (dgs_cons (dg_name 10 nd_law) (dgs_cons (dg_name 11 nd_law) dgs_nil)))
      (ds_cons (ds_if (dt_cmp (opd_ne hr) (d_callC C_classes (hr.mono (by decide)) tk rfl (da_cons (d_var 11) da_nil) (flen_cons flen_nil)) (d_lc (own := [("_law_number", 12)]) rfl nd_law (di_range1 rfl (T.z "range" (by decide +kernel)) (da_cons d_int da_nil)) (blkOk_by (by kernel_rfl)) (fun _ _ _ _ _ _ => (dc_name 12 (by decide) nd_law)) (fun _ _ _ _ _ _ => dts_nil) (fun _ _ _ _ _ _ => (d_cmp (opd_eq hr) (d_var 12) (d_op opd_div (d_var 10) d_int) (nomark _)))) (nomark _))
      (ds_one (ds_ret d_bl))
      ds_nil)
      (ds_one (ds_if (PW.pt (dw_or (dt_not (dt_val (d_callB (calld_isi T.kit) (T.z "isinstance" (by decide +kernel)) (by decide +kernel) (da_cons (d_var 11) (da_cons (d_cls 0 (T.mgc 0 _ rfl)) da_nil))))) (dw_or1 (dt_not (dt_val (d_callB (calld_isi T.kit) (T.z "isinstance" (by decide +kernel)) (by decide +kernel) (da_cons (d_var 11) (da_cons (d_ty "ValueError" (T.z "ValueError" (by decide +kernel)) (by decide +kernel)) da_nil))))))))
      (ds_one (ds_ret d_bl))
      ds_nil)))))))))))))))))
      (ds_one (ds_ret (d_and (d_cmp (opd_eq hr) (d_callC C_classes (hr.mono (by decide)) tk rfl (da_cons (d_excP F.excBase_ValueError T.pl rfl T.plk (T.mgc 0 _ rfl) (da_cons d_str da_nil)) da_nil) (flen_cons flen_nil)) (d_op opd_mul (d_lst (da_cons d_bl da_nil)) d_int) (nomark _)) (d_one (d_callB (calld_isi T.kit) (T.z "isinstance" (by decide +kernel)) (by decide +kernel) (da_cons (d_excP0 F.excBase_ValueError T.pl rfl T.plk (T.mgc 0 _ rfl)) (da_cons (d_ty "ValueError" (T.z "ValueError" (by decide +kernel)) (by decide +kernel)) da_nil))))))))⟩
theorem S_law : FnScope nLaw ["_law_script"] (defScope (top 28)) := ⟨rfl, rfl, rfl, by decide, rfl, by decide +kernel, by decide +kernel⟩
def t0 : FS := b_law.1.1
def t1 : FS := b_law.1.2.1
def t2 : FS := b_law.1.2.2.1
def t3 : FS := b_law.1.2.2.2.1
def t4 : FS := b_law.1.2.2.2.2.1
def t5 : FS := b_law.1.2.2.2.2.2.1
def t6 : FS := b_law.1.2.2.2.2.2.2.1
def t7 : FS := b_law.1.2.2.2.2.2.2.2.1
def t8 : FS := b_law.1.2.2.2.2.2.2.2.2.1
def t9 : FS := b_law.1.2.2.2.2.2.2.2.2.2.1
def t10 : FS := b_law.1.2.2.2.2.2.2.2.2.2.2.1
def t11 : FS := b_law.1.2.2.2.2.2.2.2.2.2.2.2.1
def t12 : FS := b_law.1.2.2.2.2.2.2.2.2.2.2.2.2
end K01

set_option Elab.async false
set_option linter.all false
set_option maxRecDepth 100000
set_option maxHeartbeats 4000000
namespace K01
open PySem L2 PySem.W PySem.HandSPX DL
def menu : List D := [.non, .int 0, .int 1, .bl true, .bl false, .str "", .str "1+x", .str "a", .tup [], .tup [.int 1, .int 0], .lst [], .lst [.int 0], .dct [] [], .dct [.inr "x"] [.int 1], .int (10 ^ 59), .int (-7)]
def valued (a : D) : List D := [.exc 1 [a], .exc 1 [a], .exc 2 [a], .exc 2 [a]]
def placed (a : D) : List D := [.exc 8 [a], .exc 8 [a], .exc 14 [a], .exc 14 [a]]
def named (a : D) : List D := [.exc 13 [a], .exc 13 [a], .exc 15 [a], .exc 15 [a]]
def lines (a : D) : List D := [.exc 12 [a], .exc 12 [a]]
def parted (a : D) : List D := [.exc 3 [a], .exc 3 [a], .exc 4 [a], .exc 4 [a], .exc 5 [a], .exc 5 [a], .exc 6 [a], .exc 6 [a], .exc 7 [a], .exc 7 [a], .exc 9 [a], .exc 9 [a], .exc 10 [a], .exc 10 [a], .exc 16 [a], .exc 16 [a]]
def rows (a b : D) : List D := valued a ++ parted a ++ placed a ++ named a ++ [.exc 11 [a, b], .exc 11 [b, a]] ++ lines a ++ [.exc 17 [a, b], .exc 17 [b, a], .exc 18 [], .exc 18 []]

/-- the statements that only make: whatever a and b are -/
theorem r1 (st : Pn) (x0 x1 x2 x3 x4 x5 x6 x9 x10 x11 x12 : Option D) (a b : D) : t1 [x0, x1, x2, x3, x4, x5, x6, some a, some b, x9, x10, x11, x12] st = .nx [x0, x1, x2, some (.lst (valued a)), x4, x5, x6, some a, some b, x9, x10, x11, x12] st := by kernel_rfl
theorem r2 (st : Pn) (x0 x1 x2 x3 x4 x5 x6 x9 x10 x11 x12 : Option D) (a b : D) : t2 [x0, x1, x2, x3, x4, x5, x6, some a, some b, x9, x10, x11, x12] st = .nx [x0, x1, x2, x3, some (.lst [.exc 13 [a], .exc 13 [a]]), x5, x6, some a, some b, some (.lst (placed a)), x10, x11, x12] st := by kernel_rfl
theorem r3 (st : Pn) (x0 x1 x2 x3 x5 x6 x9 x10 x11 x12 : Option D) (a b : D) : t3 [x0, x1, x2, x3, some (.lst [.exc 13 [a], .exc 13 [a]]), x5, x6, some a, some b, x9, x10, x11, x12] st = .nx [x0, x1, x2, x3, some (.lst (named a)), x5, x6, some a, some b, x9, x10, x11, x12] st := by kernel_rfl
def E (x0 x1 x2 x5 x6 : Option D) (a b : D) (x10 x11 x12 : Option D) : Ev := [x0, x1, x2, some (.lst (valued a)), some (.lst (named a)), x5, x6, some a, some b, some (.lst (placed a)), x10, x11, x12]
theorem r7 (st : Pn) (x0 x1 x2 x5 x6 x10 x11 x12 : Option D) (a b : D) : t7 (E x0 x1 x2 x5 x6 a b x10 x11 x12) st = .nx (E x0 x1 x2 (some (.lst (lines a))) x6 a b x10 x11 x12) st := by kernel_rfl
def rows0 (a b : D) : List D := valued a ++ parted a ++ placed a ++ named a ++ [.exc 11 [a, b], .exc 11 [b, a]] ++ lines a
theorem r9 (st : Pn) (x0 x1 x2 x6 x10 x11 x12 : Option D) (a b : D) : t9 (E x0 x1 x2 (some (.lst (lines a))) x6 a b x10 x11 x12) st = .nx (E x0 x1 x2 (some (.lst (lines a))) (some (.lst (rows0 a b))) a b x10 x11 x12) st := by kernel_rfl
theorem r10 (st : Pn) (x0 x1 x2 x5 x10 x11 x12 : Option D) (a b : D) : t10 (E x0 x1 x2 x5 (some (.lst (rows0 a b))) a b x10 x11 x12) st = .nx (E x0 x1 x2 x5 (some (.lst (rows a b))) a b x10 x11 x12) st := by kernel_rfl
def keepL : RS → Option (Option D × Option D × Nat × Pn)
  | .nx (a :: b :: l) st => some (a, b, l.length, st)
  | _ => none
theorem r11 (st : Pn) (x0 x1 x2 x5 x10 x11 x12 : Option D) (a b : D) : keepL (t11 (E x0 x1 x2 x5 (some (.lst (rows a b))) a b x10 x11 x12) st) = some (x0, x1, 11, st) := by kernel_rfl
/-- the tests: at each value of the menu -/
theorem r4 (st : Pn) (x0 x1 x2 x5 x6 x10 x11 x12 : Option D) : (menu.map fun a => menu.map fun b => t4 (E x0 x1 x2 x5 x6 a b x10 x11 x12) st) = menu.map fun a => menu.map fun b => .nx (E x0 x1 x2 x5 x6 a b x10 x11 x12) st := by kernel_rfl
theorem r5 (st : Pn) (x0 x1 x2 x5 x6 x10 x11 x12 : Option D) (b : D) : (menu.map fun a => t5 (E x0 x1 x2 x5 x6 a b x10 x11 x12) st) = menu.map fun a => .nx (E x0 x1 x2 x5 x6 a b x10 x11 x12) st := by kernel_rfl
theorem r6 (st : Pn) (x0 x1 x2 x5 x6 x10 x11 x12 : Option D) (b : D) : (menu.map fun a => t6 (E x0 x1 x2 x5 x6 a b x10 x11 x12) st) = menu.map fun a => .nx (E x0 x1 x2 x5 x6 a b x10 x11 x12) st := by kernel_rfl
theorem r8 (st : Pn) (x0 x1 x2 x6 x10 x11 x12 : Option D) (b : D) : (menu.map fun a => t8 (E x0 x1 x2 (some (.lst (lines a))) x6 a b x10 x11 x12) st) = menu.map fun a => .nx (E x0 x1 x2 (some (.lst (lines a))) x6 a b x10 x11 x12) st := by kernel_rfl
theorem rEnd (st : Pn) (x0 x1 x2 x3 x4 x5 x6 x7 x8 x9 x10 x11 x12 : Option D) : t12 [x0, x1, x2, x3, x4, x5, x6, x7, x8, x9, x10, x11, x12] st = .rt (.bl true) st := by kernel_rfl
theorem draw_is : m_draw = drawM 70843 2017 2147483549 81157 2017 2147483629 523 64151 70843 2147483587 := rfl

/-! ### the draws -/
def Next (st st' : Pn) : Prop := PenOk st' ∧ st'.xs = st.xs ∧ st'.at_ ≤ st.at_ + 1
theorem m_draw_ok {n : Int} {st : Pn} (hn : 0 < n) (hn2 : n < 2 ^ 200) (ha : st.at_ < 2 ^ 20) (ok : PenOk st) : Drawn1 st n (m_draw [.pen, .int n] st) := by
  rw [draw_is]
  exact draw_ok (by decide) (by decide) (by decide) (by decide) (by decide) (by decide) (by decide) (by decide) (by decide) hn hn2 ha ok
theorem pick_ok {l : List D} {st : Pn} (h : 0 < l.length) (h2 : l.length ≤ 100000) (ha : st.at_ < 2 ^ 20) (ok : PenOk st) : ∃ d st', m_pick [.pen, .lst l] st = .ok d st' ∧ d ∈ l ∧ Next st st' := by
  obtain ⟨i, st', e, i0, i1, hk⟩ := m_draw_ok (n := (l.length : Int)) (by omega) (Int.lt_of_le_of_lt (show (l.length : Int) ≤ 100000 by omega) (by decide)) ha ok
  obtain ⟨d, hd, ea⟩ := atI_in (l := l) i0 i1
  refine ⟨d, st', ?_, hd, hk⟩
  have e1 : fCall m_draw (fCons (fVar 0) (fCons (fCB cLen (fCons (fVar 1) fNil)) fNil)) [some .pen, some (.lst l)] st = .ok (.int i) st' := e
  have e2 : fOp oIx (fVar 1) (fCall m_draw (fCons (fVar 0) (fCons (fCB cLen (fCons (fVar 1) fNil)) fNil))) [some .pen, some (.lst l)] st = .ok d st' := fOp_of rfl e1 (by show (match atI l i with | some d => RD.ok d | none => RD.bad) = _; rw [ea])
  show (fRet (fOp oIx (fVar 1) (fCall m_draw (fCons (fVar 0) (fCons (fCB cLen (fCons (fVar 1) fNil)) fNil)))) [some .pen, some (.lst l)] st).out = _
  rw [fRet_of e2]
  rfl
def thing1 : FS := match b_thing.1 with | f => f
theorem thing_is (st : Pn) : m_thing [.pen] st = (match m_pick [.pen, .lst menu] st with | .ok d st => .ok d st | .err c l st => .err c l st | .bad => .bad) := by
  have e : m_thing [.pen] st = (fRet (fCall m_pick (fCons (fVar 0) (fCons (fVar 1) fNil))) [some .pen, some (.lst menu)] st).out := by kernel_rfl
  rw [e]
  show ((m_pick [.pen, .lst menu] st).to _ fun d st1 => RS.rt d st1).out = _
  cases m_pick [.pen, .lst menu] st <;> rfl
theorem thing_ok {st : Pn} (ha : st.at_ < 2 ^ 20) (ok : PenOk st) : ∃ d st', m_thing [.pen] st = .ok d st' ∧ d ∈ menu ∧ Next st st' := by
  obtain ⟨d, st', e, hd, hk⟩ := pick_ok (l := menu) (by decide) (by decide) ha ok
  exact ⟨d, st', by rw [thing_is, e], hd, hk⟩
theorem r0 {st st1 st2 : Pn} {x0 x2 x3 x4 x5 x6 x7 x8 x9 x10 x11 x12 : Option D} {a b : D} (h1 : m_thing [.pen] st = .ok a st1) (h2 : m_thing [.pen] st1 = .ok b st2) :
    t0 [x0, some .pen, x2, x3, x4, x5, x6, x7, x8, x9, x10, x11, x12] st = .nx [x0, some .pen, x2, x3, x4, x5, x6, some a, some b, x9, x10, x11, x12] st2 := by
  have e1 : fCall m_thing (fCons (fVar 1) fNil) [x0, some .pen, x2, x3, x4, x5, x6, x7, x8, x9, x10, x11, x12] st = .ok a st1 := h1
  have e2 : fCall m_thing (fCons (fVar 1) fNil) [x0, some .pen, x2, x3, x4, x5, x6, x7, x8, x9, x10, x11, x12] st1 = .ok b st2 := h2
  have e3 : fTup (fCons (fCall m_thing (fCons (fVar 1) fNil)) (fCons (fCall m_thing (fCons (fVar 1) fNil)) fNil)) [x0, some .pen, x2, x3, x4, x5, x6, x7, x8, x9, x10, x11, x12] st = .ok (.tup [a, b]) st2 :=
    fTup_of (fCons_of e1 (fCons_of e2 rfl)) (by show 2 ≤ 100000; decide)
  have e0 : t0 = fSet (gTp 2 (gsC (gN 7) (gsC (gN 8) gs0))) (fTup (fCons (fCall m_thing (fCons (fVar 1) fNil)) (fCons (fCall m_thing (fCons (fVar 1) fNil)) fNil))) := rfl
  rw [e0]
  unfold fSet
  rw [e3]
  rfl
def body : FS := fSeq t0 (fSeq t1 (fSeq t2 (fSeq t3 (fSeq t4 (fSeq t5 (fSeq t6 (fSeq t7 (fSeq t8 (fSeq t9 (fSeq t10 t11))))))))))
theorem keepL_of {r : RS} {x0 x1 : Option D} {n : Nat} {st : Pn} (h : keepL r = some (x0, x1, n, st)) : ∃ l, l.length = n ∧ r = .nx (x0 :: x1 :: l) st := by
  unfold keepL at h
  split at h
  · cases h
    exact ⟨_, rfl, rfl⟩
  · cases h
theorem turn_ok {st : Pn} {x0 : Option D} {l : List (Option D)} (hl : l.length = 11) (ha : st.at_ + 1 < 2 ^ 20) (ok : PenOk st) : ∃ l' st', l'.length = 11 ∧ body (x0 :: some .pen :: l) st = .nx (x0 :: some .pen :: l') st' ∧ PenOk st' ∧ st'.at_ ≤ st.at_ + 2 := by
  match l, hl with
  | [x2, x3, x4, x5, x6, x7, x8, x9, x10, x11, x12], _ =>
    obtain ⟨a, s1, e1, ma, k1, k1', k1''⟩ := thing_ok (by omega) ok
    obtain ⟨b, s2, e2, mb, k2, k2', k2''⟩ := thing_ok (st := s1) (by omega) k1
    have z4 := map_at (map_at (r4 s2 x0 (some .pen) x2 x5 x6 x10 x11 x12) ma) mb
    have z5 := map_at (r5 s2 x0 (some .pen) x2 x5 x6 x10 x11 x12 b) ma
    have z6 := map_at (r6 s2 x0 (some .pen) x2 x5 x6 x10 x11 x12 b) ma
    have z8 := map_at (r8 s2 x0 (some .pen) x2 x6 x10 x11 x12 b) ma
    obtain ⟨l', hl', e11⟩ := keepL_of (r11 s2 x0 (some .pen) x2 (some (.lst (lines a))) x10 x11 x12 a b)
    refine ⟨l', s2, hl', ?_, k2, by omega⟩
    unfold body
    rw [fSeq_nx (r0 e1 e2), fSeq_nx (r1 ..), fSeq_nx (r2 ..), fSeq_nx (r3 ..)]
    show fSeq t4 _ (E x0 (some .pen) x2 x5 x6 a b x10 x11 x12) s2 = _
    rw [fSeq_nx z4, fSeq_nx z5, fSeq_nx z6, fSeq_nx (r7 ..), fSeq_nx z8, fSeq_nx (r9 ..), fSeq_nx (r10 ..), e11]
theorem loop_ok : ∀ (ds : List D) (st : Pn) (l : List (Option D)), l.length = 11 → st.at_ + 2 * ds.length < 2 ^ 20 → PenOk st → ∃ l' st', l'.length = 11 ∧ loopS (gN 2) body ds (none :: some .pen :: l) st = .nx (none :: some .pen :: l') st'
  | [], st, l, hl, _, _ => ⟨l, st, hl, rfl⟩
  | d :: ds, st, l, hl, ha, ok => by
    match l, hl with
    | x2 :: l0, hl0 =>
      obtain ⟨l1, s1, h1, e1, ok1, a1⟩ := turn_ok (st := st) (x0 := none) (l := some d :: l0) hl0 (by simp only [List.length_cons] at ha; omega) ok
      obtain ⟨l2, s2, h2, e2⟩ := loop_ok ds s1 l1 h1 (by simp only [List.length_cons] at ha; omega) ok1
      refine ⟨l2, s2, h2, ?_⟩
      rw [loopS_nx (fg := gN 2) (ρ1 := none :: some .pen :: some d :: l0) rfl e1, e2]
def mLaw : FS := fSeq (fFor (fRng1 (fCons (fC (.int 6)) fNil)) (gN 2) body) t12
theorem law_ok (ns : List Int) (ok : PenOk ⟨ns, 0, 0⟩) : ∃ st', mLaw (none :: some .pen :: List.replicate 11 none) ⟨ns, 0, 0⟩ = .rt (.bl true) st' := by
  obtain ⟨l', st', hl, e⟩ := loop_ok (rngD 0 6) ⟨ns, 0, 0⟩ (List.replicate 11 none) rfl (by show 0 + 2 * 6 < 2 ^ 20; decide) ok
  have e2 : fFor (fRng1 (fCons (fC (.int 6)) fNil)) (gN 2) body (none :: some .pen :: List.replicate 11 none) ⟨ns, 0, 0⟩ = .nx (none :: some .pen :: l') st' := (fFor_of (ds := rngD 0 6) rfl).trans e
  refine ⟨st', ?_⟩
  unfold mLaw
  rw [fSeq_nx e2]
  match l', hl with
  | [x2, x3, x4, x5, x6, x7, x8, x9, x10, x11, x12], _ => exact rEnd ..
end K01

set_option Elab.async false
set_option linter.all false
set_option maxRecDepth 100000
set_option maxHeartbeats 40000000
namespace K01
open PySem L2 PySem.W PySem.HandSPX DL
def rg : List Nat := List.range 19
def clsChk (K : Frag) (cs : List Addr) : Bool :=
  (rg.all fun c => eqs (nsIn K mainGlobals (nms.getD c "")) (some (some (.ref (cs.getD c 0))))) && ((rg.all fun c => xfChk K (cs.getD c 0)) && ((rg.all fun c => (flds.getD c []).all fun f => eqs (findIn K (.ref (cs.getD c 0)) f) (some none)) &&
  ((rg.all fun c => rg.all fun c' => eqs (kitOne K (.ref (cs.getD c 0)) (.ref (cs.getD c' 0))) (some (c == c' || c' == 0))) && ((rg.all fun c => eqs (kitOne K (.ref (cs.getD c 0)) (.type "ValueError")) (some true)) &&
  ((zs.all fun x => eqs (nsIn K mainGlobals x) (some none)) && (excIn K (cs.getD 0 0) [.type "ValueError", .type "Exception", .type "BaseException", .type "object"] "ValueError.__new__" && keepIn K (.ref (cs.getD 0 0))))))))
theorem rg_at {p : Nat → Bool} (h : rg.all p = true) {c : Nat} (hc : c < 19) : p c = true := List.all_eq_true.mp h c (List.mem_range.mpr hc)
theorem flds_out {c : Nat} (h : ¬ c < 19) : flds.getD c [] = [] := by
  rw [List.getD_eq_getElem?_getD, List.getElem?_eq_none]
  · rfl
  · show 19 ≤ c
    omega
theorem nms_in {c : Nat} {x : Str} (h : nms[c]? = some x) : c < 19 ∧ nms.getD c "" = x := by
  refine ⟨?_, by rw [List.getD_eq_getElem?_getD, h]; rfl⟩
  have z := (List.getElem?_eq_some_iff.mp h).1
  exact z
theorem flds_nd : ∀ c, (flds.getD c []).Nodup := fun c => by
  by_cases h : c < 19
  · have z : ∀ c ∈ rg, (flds.getD c []).Nodup := by decide +kernel
    exact z c (List.mem_range.mpr h)
  · rw [flds_out h]
    exact List.nodup_nil
theorem atx_ix {f : Str} {c i : Nat} (h : atx f c = some i) : c < 19 ∧ (flds.getD c [])[i]? = some f := by
  unfold atx at h
  obtain ⟨h1, h2, _⟩ := List.findIdx?_eq_some_iff_getElem.mp h
  have e : (flds.getD c [])[i] = f := by simpa using h2
  refine ⟨?_, by rw [List.getElem?_eq_getElem h1, e]⟩
  by_cases hc : c < 19
  · exact hc
  · rw [flds_out hc] at h1
    exact absurd h1 (Nat.not_lt_zero _)
theorem tx_mk {w : World} {K : Frag} {mg : Str → Option Value} {cs : List Addr} {h : Heap} (KX : K.In h) (G : h.Ns mainGlobals mg) (hk : clsChk K cs = true)
    (xp : ∀ c, (decide (0 < c) && decide (c < 19)) = true → XcI P w K mg (cs.getD c 0) (flds.getD c []) fmP)
    (xk : ∀ c, (flds.getD c []).length = 1 → XcI P w K mg (cs.getD c 0) (flds.getD c []) (fmK (flds.getD c [])))
    (xs : ∀ c x1 x2, flds.getD c [] = [x1, x2] → XcI P w K mg (cs.getD c 0) (flds.getD c []) (fmS x1 x2)) : Tx w K mg cs := by
  obtain ⟨k1, hk⟩ := and_of hk
  obtain ⟨k2, hk⟩ := and_of hk
  obtain ⟨k3, hk⟩ := and_of hk
  obtain ⟨k4, hk⟩ := and_of hk
  obtain ⟨k5, hk⟩ := and_of hk
  obtain ⟨k6, hk⟩ := and_of hk
  obtain ⟨k7, k8⟩ := and_of hk
  refine ⟨fun c x hx => ?_, xp, xk, xs, ⟨fun t d v b hb hv => ?_, fun c d b hb => ?_, fun c d b hb => ?_⟩, fun f c i hi => ?_, fun x hx => mg_none_of KX G (eqs_of (List.all_eq_true.mp k6 x hx)), k7, k8⟩
  · obtain ⟨hc, e⟩ := nms_in hx
    have z := eqs_of (rg_at k1 hc)
    rw [e] at z
    exact mg_of KX G z
  · unfold K01.kit at hb
    split at hb
    · split at hb
      · rename_i c c' hc
        cases hb
        cases hv
        exact eqs_of (rg_at (rg_at k4 hc.1) hc.2)
      · cases hb
    · split at hb
      · rename_i c n hc
        obtain ⟨hc, rfl⟩ := hc
        cases hb
        cases hv
        exact eqs_of (rg_at k5 hc)
      · cases hb
    · cases hb
  · cases hb
  · have hc : c < 19 := by
      unfold K01.kit at hb
      cases d with
      | cls c' =>
        by_cases hc : c < 19 ∧ c' < 19
        · exact hc.1
        · dsimp only at hb
          rw [if_neg hc] at hb
          cases hb
      | ty n =>
        by_cases hc : c < 19 ∧ n = "ValueError"
        · exact hc.1
        · dsimp only at hb
          rw [if_neg hc] at hb
          cases hb
      | _ => cases hb
    exact (xf_of (rg_at k2 hc)).2
  · obtain ⟨hc, e⟩ := atx_ix hi
    exact ⟨(xf_of (rg_at k2 hc)).1, eqs_of (List.all_eq_true.mp (rg_at k3 hc) f (List.mem_of_getElem? e)), e, flds_nd c⟩
theorem S_pen : FnScope ["_law_script"] ["_law_script"] (defScope (top 21)) := ⟨rfl, rfl, rfl, by decide, rfl, by decide +kernel, by decide +kernel⟩
theorem all_mk {w : World} {K : Frag} {mg : Str → Option Value} {fa : Addr} {h : Heap} (KX : K.In h) (G : h.Ns mainGlobals mg) (hfa : mg "law" = some (.ref fa)) {C0 C1 C2 C3 C4 C5 C6 C7 C8 C9 C10 C11 C12 C13 C14 C15 C16 C17 C18 f1 cda1 cc1 f2 cda2 cc2 f3 cda3 cc3 f4 cda4 cc4 f5 cda5 cc5 f6 cda6 cc6 f7 cda7 cc7 f8 cda8 cc8 f9 cda9 cc9 f10 cda10 cc10 f11 cda11 cc11 f12 cda12 cc12 f13 cda13 cc13 f14 cda14 cc14 f15 cda15 cc15 f16 cda16 cc16 f17 cda17 cc17 f18 cda18 cc18 e21 e22 e23 e24 e25 e26 e27 e28 : Addr} {oc1 kV1 dc1 pm1 ct1 oc2 kV2 dc2 pm2 ct2 oc3 kV3 dc3 pm3 ct3 oc4 kV4 dc4 pm4 ct4 oc5 kV5 dc5 pm5 ct5 oc6 kV6 dc6 pm6 ct6 oc7 kV7 dc7 pm7 ct7 oc8 kV8 dc8 pm8 ct8 oc9 kV9 dc9 pm9 ct9 oc10 kV10 dc10 pm10 ct10 oc11 kV11 dc11 pm11 ct11 oc12 kV12 dc12 pm12 ct12 oc13 kV13 dc13 pm13 ct13 oc14 kV14 dc14 pm14 ct14 oc15 kV15 dc15 pm15 ct15 oc16 kV16 dc16 pm16 ct16 oc17 kV17 dc17 pm17 ct17 oc18 kV18 dc18 pm18 ct18 ocd21 kVd21 dcd21 pmd21 ctd21 cdd21 ocd22 kVd22 dcd22 pmd22 ctd22 cdd22 ocd23 kVd23 dcd23 pmd23 ctd23 cdd23 ocd24 kVd24 dcd24 pmd24 ctd24 cdd24 ocd25 kVd25 dcd25 pmd25 ctd25 cdd25 ocd26 kVd26 dcd26 pmd26 ctd26 cdd26 ocd27 kVd27 dcd27 pmd27 ctd27 cdd27 ocd28 kVd28 dcd28 pmd28 ctd28 cdd28 : Value} {od1 an1 od2 an2 od3 an3 od4 an4 od5 an5 od6 an6 od7 an7 od8 an8 od9 an9 od10 an10 od11 an11 od12 an12 od13 an13 od14 an14 od15 an15 od16 an16 od17 an17 od18 an18 odd21 and21 odd22 and22 odd23 and23 odd24 and24 odd25 and25 odd26 and26 odd27 and27 odd28 and28 : Option Addr} {sl1 sl2 sl3 sl4 sl5 sl6 sl7 sl8 sl9 sl10 sl11 sl12 sl13 sl14 sl15 sl16 sl17 sl18 sld21 sld22 sld23 sld24 sld25 sld26 sld27 sld28 : Array (Option Value)}
    (a0 : nsIn K mainGlobals "CoderError" = some (some (.ref C0)))
    (a1 : nsIn K mainGlobals "BadPattern" = some (some (.ref C1)))
    (a2 : nsIn K mainGlobals "BadNumber" = some (some (.ref C2)))
    (a3 : nsIn K mainGlobals "BadBits" = some (some (.ref C3)))
    (a4 : nsIn K mainGlobals "BadTable" = some (some (.ref C4)))
    (a5 : nsIn K mainGlobals "BadCoder" = some (some (.ref C5)))
    (a6 : nsIn K mainGlobals "BadLengths" = some (some (.ref C6)))
    (a7 : nsIn K mainGlobals "BadStep" = some (some (.ref C7)))
    (a8 : nsIn K mainGlobals "BadRows" = some (some (.ref C8)))
    (a9 : nsIn K mainGlobals "BadRound" = some (some (.ref C9)))
    (a10 : nsIn K mainGlobals "BadBook" = some (some (.ref C10)))
    (a11 : nsIn K mainGlobals "BadText" = some (some (.ref C11)))
    (a12 : nsIn K mainGlobals "BadLine" = some (some (.ref C12)))
    (a13 : nsIn K mainGlobals "NoName" = some (some (.ref C13)))
    (a14 : nsIn K mainGlobals "NoPlace" = some (some (.ref C14)))
    (a15 : nsIn K mainGlobals "Taken" = some (some (.ref C15)))
    (a16 : nsIn K mainGlobals "Unlike" = some (some (.ref C16)))
    (a17 : nsIn K mainGlobals "TooMany" = some (some (.ref C17)))
    (a18 : nsIn K mainGlobals "NoChange" = some (some (.ref C18)))
    (i1 : findIn K (.ref C1) "__init__" = some (some (.ref f1)))
    (l1 : K.lookup f1 = some ⟨oc1, od1, .func (ksFn "__init__" "BadPattern.__init__" (defArgs s1) (defBody s1) (defScope s1) .none kV1 dc1 pm1 an1 (.ref cda1) ct1 cc1), sl1⟩)
    (i2 : findIn K (.ref C2) "__init__" = some (some (.ref f2)))
    (l2 : K.lookup f2 = some ⟨oc2, od2, .func (ksFn "__init__" "BadNumber.__init__" (defArgs s2) (defBody s2) (defScope s2) .none kV2 dc2 pm2 an2 (.ref cda2) ct2 cc2), sl2⟩)
    (i3 : findIn K (.ref C3) "__init__" = some (some (.ref f3)))
    (l3 : K.lookup f3 = some ⟨oc3, od3, .func (ksFn "__init__" "BadBits.__init__" (defArgs s3) (defBody s3) (defScope s3) .none kV3 dc3 pm3 an3 (.ref cda3) ct3 cc3), sl3⟩)
    (i4 : findIn K (.ref C4) "__init__" = some (some (.ref f4)))
    (l4 : K.lookup f4 = some ⟨oc4, od4, .func (ksFn "__init__" "BadTable.__init__" (defArgs s4) (defBody s4) (defScope s4) .none kV4 dc4 pm4 an4 (.ref cda4) ct4 cc4), sl4⟩)
    (i5 : findIn K (.ref C5) "__init__" = some (some (.ref f5)))
    (l5 : K.lookup f5 = some ⟨oc5, od5, .func (ksFn "__init__" "BadCoder.__init__" (defArgs s5) (defBody s5) (defScope s5) .none kV5 dc5 pm5 an5 (.ref cda5) ct5 cc5), sl5⟩)
    (i6 : findIn K (.ref C6) "__init__" = some (some (.ref f6)))
    (l6 : K.lookup f6 = some ⟨oc6, od6, .func (ksFn "__init__" "BadLengths.__init__" (defArgs s6) (defBody s6) (defScope s6) .none kV6 dc6 pm6 an6 (.ref cda6) ct6 cc6), sl6⟩)
    (i7 : findIn K (.ref C7) "__init__" = some (some (.ref f7)))
    (l7 : K.lookup f7 = some ⟨oc7, od7, .func (ksFn "__init__" "BadStep.__init__" (defArgs s7) (defBody s7) (defScope s7) .none kV7 dc7 pm7 an7 (.ref cda7) ct7 cc7), sl7⟩)
    (i8 : findIn K (.ref C8) "__init__" = some (some (.ref f8)))
    (l8 : K.lookup f8 = some ⟨oc8, od8, .func (ksFn "__init__" "BadRows.__init__" (defArgs s8) (defBody s8) (defScope s8) .none kV8 dc8 pm8 an8 (.ref cda8) ct8 cc8), sl8⟩)
    (i9 : findIn K (.ref C9) "__init__" = some (some (.ref f9)))
    (l9 : K.lookup f9 = some ⟨oc9, od9, .func (ksFn "__init__" "BadRound.__init__" (defArgs s9) (defBody s9) (defScope s9) .none kV9 dc9 pm9 an9 (.ref cda9) ct9 cc9), sl9⟩)
    (i10 : findIn K (.ref C10) "__init__" = some (some (.ref f10)))
    (l10 : K.lookup f10 = some ⟨oc10, od10, .func (ksFn "__init__" "BadBook.__init__" (defArgs s10) (defBody s10) (defScope s10) .none kV10 dc10 pm10 an10 (.ref cda10) ct10 cc10), sl10⟩)
    (i11 : findIn K (.ref C11) "__init__" = some (some (.ref f11)))
    (l11 : K.lookup f11 = some ⟨oc11, od11, .func (ksFn "__init__" "BadText.__init__" (defArgs s11) (defBody s11) (defScope s11) .none kV11 dc11 pm11 an11 (.ref cda11) ct11 cc11), sl11⟩)
    (i12 : findIn K (.ref C12) "__init__" = some (some (.ref f12)))
    (l12 : K.lookup f12 = some ⟨oc12, od12, .func (ksFn "__init__" "BadLine.__init__" (defArgs s12) (defBody s12) (defScope s12) .none kV12 dc12 pm12 an12 (.ref cda12) ct12 cc12), sl12⟩)
    (i13 : findIn K (.ref C13) "__init__" = some (some (.ref f13)))
    (l13 : K.lookup f13 = some ⟨oc13, od13, .func (ksFn "__init__" "NoName.__init__" (defArgs s13) (defBody s13) (defScope s13) .none kV13 dc13 pm13 an13 (.ref cda13) ct13 cc13), sl13⟩)
    (i14 : findIn K (.ref C14) "__init__" = some (some (.ref f14)))
    (l14 : K.lookup f14 = some ⟨oc14, od14, .func (ksFn "__init__" "NoPlace.__init__" (defArgs s14) (defBody s14) (defScope s14) .none kV14 dc14 pm14 an14 (.ref cda14) ct14 cc14), sl14⟩)
    (i15 : findIn K (.ref C15) "__init__" = some (some (.ref f15)))
    (l15 : K.lookup f15 = some ⟨oc15, od15, .func (ksFn "__init__" "Taken.__init__" (defArgs s15) (defBody s15) (defScope s15) .none kV15 dc15 pm15 an15 (.ref cda15) ct15 cc15), sl15⟩)
    (i16 : findIn K (.ref C16) "__init__" = some (some (.ref f16)))
    (l16 : K.lookup f16 = some ⟨oc16, od16, .func (ksFn "__init__" "Unlike.__init__" (defArgs s16) (defBody s16) (defScope s16) .none kV16 dc16 pm16 an16 (.ref cda16) ct16 cc16), sl16⟩)
    (i17 : findIn K (.ref C17) "__init__" = some (some (.ref f17)))
    (l17 : K.lookup f17 = some ⟨oc17, od17, .func (ksFn "__init__" "TooMany.__init__" (defArgs s17) (defBody s17) (defScope s17) .none kV17 dc17 pm17 an17 (.ref cda17) ct17 cc17), sl17⟩)
    (i18 : findIn K (.ref C18) "__init__" = some (some (.ref f18)))
    (l18 : K.lookup f18 = some ⟨oc18, od18, .func (ksFn "__init__" "NoChange.__init__" (defArgs s18) (defBody s18) (defScope s18) .none kV18 dc18 pm18 an18 (.ref cda18) ct18 cc18), sl18⟩)
    (b21 : nsIn K mainGlobals "_law_pen" = some (some (.ref e21)))
    (m21 : K.lookup e21 = some ⟨ocd21, odd21, .func (fnOf "_law_pen" "_law_pen" (defArgs (top 21)) (defBody (top 21)) (defScope (top 21)) .none kVd21 dcd21 pmd21 and21 cdd21 ctd21), sld21⟩)
    (b22 : nsIn K mainGlobals "_law_draw" = some (some (.ref e22)))
    (m22 : K.lookup e22 = some ⟨ocd22, odd22, .func (fnOf "_law_draw" "_law_draw" (defArgs (top 22)) (defBody (top 22)) (defScope (top 22)) .none kVd22 dcd22 pmd22 and22 cdd22 ctd22), sld22⟩)
    (b23 : nsIn K mainGlobals "_law_pick" = some (some (.ref e23)))
    (m23 : K.lookup e23 = some ⟨ocd23, odd23, .func (fnOf "_law_pick" "_law_pick" (defArgs (top 23)) (defBody (top 23)) (defScope (top 23)) .none kVd23 dcd23 pmd23 and23 cdd23 ctd23), sld23⟩)
    (b24 : nsIn K mainGlobals "_law_thing" = some (some (.ref e24)))
    (m24 : K.lookup e24 = some ⟨ocd24, odd24, .func (fnOf "_law_thing" "_law_thing" (defArgs (top 24)) (defBody (top 24)) (defScope (top 24)) .none kVd24 dcd24 pmd24 and24 cdd24 ctd24), sld24⟩)
    (b25 : nsIn K mainGlobals "_law_classes" = some (some (.ref e25)))
    (m25 : K.lookup e25 = some ⟨ocd25, odd25, .func (fnOf "_law_classes" "_law_classes" (defArgs (top 25)) (defBody (top 25)) (defScope (top 25)) .none kVd25 dcd25 pmd25 and25 cdd25 ctd25), sld25⟩)
    (b26 : nsIn K mainGlobals "_law_parted" = some (some (.ref e26)))
    (m26 : K.lookup e26 = some ⟨ocd26, odd26, .func (fnOf "_law_parted" "_law_parted" (defArgs (top 26)) (defBody (top 26)) (defScope (top 26)) .none kVd26 dcd26 pmd26 and26 cdd26 ctd26), sld26⟩)
    (b27 : nsIn K mainGlobals "_law_two_right" = some (some (.ref e27)))
    (m27 : K.lookup e27 = some ⟨ocd27, odd27, .func (fnOf "_law_two_right" "_law_two_right" (defArgs (top 27)) (defBody (top 27)) (defScope (top 27)) .none kVd27 dcd27 pmd27 and27 cdd27 ctd27), sld27⟩)
    (b28 : nsIn K mainGlobals "law" = some (some (.ref e28)))
    (m28 : K.lookup e28 = some ⟨ocd28, odd28, .func (fnOf "law" "law" (defArgs (top 28)) (defBody (top 28)) (defScope (top 28)) .none kVd28 dcd28 pmd28 and28 cdd28 ctd28), sld28⟩)
    (kc : clsChk K [C0, C1, C2, C3, C4, C5, C6, C7, C8, C9, C10, C11, C12, C13, C14, C15, C16, C17, C18] = true)
    (kx : (xcChk P K C1 f1 cda1 cc1 "BadPattern.__init__" ["value"] && xcChk P K C2 f2 cda2 cc2 "BadNumber.__init__" ["value"] && xcChk P K C3 f3 cda3 cc3 "BadBits.__init__" ["part"] && xcChk P K C4 f4 cda4 cc4 "BadTable.__init__" ["part"] && xcChk P K C5 f5 cda5 cc5 "BadCoder.__init__" ["part"] && xcChk P K C6 f6 cda6 cc6 "BadLengths.__init__" ["part"] && xcChk P K C7 f7 cda7 cc7 "BadStep.__init__" ["part"] && xcChk P K C8 f8 cda8 cc8 "BadRows.__init__" ["at"] && xcChk P K C9 f9 cda9 cc9 "BadRound.__init__" ["part"] && xcChk P K C10 f10 cda10 cc10 "BadBook.__init__" ["part"] && xcChk P K C11 f11 cda11 cc11 "BadText.__init__" ["line", "word"] && xcChk P K C12 f12 cda12 cc12 "BadLine.__init__" ["word"] && xcChk P K C13 f13 cda13 cc13 "NoName.__init__" ["name"] && xcChk P K C14 f14 cda14 cc14 "NoPlace.__init__" ["at"] && xcChk P K C15 f15 cda15 cc15 "Taken.__init__" ["name"] && xcChk P K C16 f16 cda16 cc16 "Unlike.__init__" ["part"] && xcChk P K C17 f17 cda17 cc17 "TooMany.__init__" ["what", "most"] && xcChk P K C18 f18 cda18 cc18 "NoChange.__init__" []) = true)
    (kd : ((codeIn K cdd21 "_law_pen" && keepIn K (.ref e21)) && (codeIn K cdd22 "_law_draw" && keepIn K (.ref e22)) && (codeIn K cdd23 "_law_pick" && keepIn K (.ref e23)) && (codeIn K cdd24 "_law_thing" && keepIn K (.ref e24)) && (codeIn K cdd25 "_law_classes" && keepIn K (.ref e25)) && (codeIn K cdd26 "_law_parted" && keepIn K (.ref e26)) && (codeIn K cdd27 "_law_two_right" && keepIn K (.ref e27)) && (codeIn K cdd28 "law" && keepIn K (.ref e28))) = true) :
    ∃ fd : FuncData, (∀ (s : Shared) (u : Value), BindsTo s fd ⟨[u], []⟩ [("_law_script", u)]) ∧ ∀ base : Heap, K.In base → base.Ns mainGlobals mg → FnG P w K mg base 4 fa fd ["_law_script"] (spLaw K) := by
  have e := hfa.symm.trans (mg_of KX G b28)
  cases e
  simp only [Bool.and_eq_true] at kx kd
  obtain ⟨⟨⟨⟨⟨⟨⟨⟨⟨⟨⟨⟨⟨⟨⟨⟨⟨x1, x2⟩, x3⟩, x4⟩, x5⟩, x6⟩, x7⟩, x8⟩, x9⟩, x10⟩, x11⟩, x12⟩, x13⟩, x14⟩, x15⟩, x16⟩, x17⟩, x18⟩ := kx
  obtain ⟨⟨⟨⟨⟨⟨⟨⟨d21, p21⟩, ⟨d22, p22⟩⟩, ⟨d23, p23⟩⟩, ⟨d24, p24⟩⟩, ⟨d25, p25⟩⟩, ⟨d26, p26⟩⟩, ⟨d27, p27⟩⟩, ⟨d28, p28⟩⟩ := kd
  have gs : mg "super" = none := mg_none_of KX G (eqs_of (List.all_eq_true.mp (and_of (and_of (and_of (and_of (and_of (and_of kc).2).2).2).2).2).1 "super" (by decide +kernel)))
  have X1 := xc1 x1 l1
  have X2 := xc2 x2 l2
  have X3 := xc3 x3 l3
  have X4 := xc4 x4 l4
  have X5 := xc5 x5 l5
  have X6 := xc6 x6 l6
  have X7 := xc7 x7 l7
  have X8 := xc8 x8 l8
  have X9 := xc9 x9 l9
  have X10 := xc10 x10 l10
  have X11 := xc11 x11 l11
  have X12 := xc12 x12 l12
  have X13 := xc13 x13 l13
  have X14 := xc14 x14 l14
  have X15 := xc15 x15 l15
  have X16 := xc16 x16 l16
  have X17 := xc17 x17 l17
  have X18 := xc18 x18 l18
  have T : Tx w K mg [C0, C1, C2, C3, C4, C5, C6, C7, C8, C9, C10, C11, C12, C13, C14, C15, C16, C17, C18] := by
    refine tx_mk KX G kc (fun c hc => ?_) (fun c hc => ?_) (fun c x1 x2 hc => ?_)
    · match c, hc with
      | 1, _ => exact xi1P X1 gs
      | 2, _ => exact xi2P X2 gs
      | 3, _ => exact xi3P X3 gs
      | 4, _ => exact xi4P X4 gs
      | 5, _ => exact xi5P X5 gs
      | 6, _ => exact xi6P X6 gs
      | 7, _ => exact xi7P X7 gs
      | 8, _ => exact xi8P X8 gs
      | 9, _ => exact xi9P X9 gs
      | 10, _ => exact xi10P X10 gs
      | 11, _ => exact xi11P X11 gs
      | 12, _ => exact xi12P X12 gs
      | 13, _ => exact xi13P X13 gs
      | 14, _ => exact xi14P X14 gs
      | 15, _ => exact xi15P X15 gs
      | 16, _ => exact xi16P X16 gs
      | 17, _ => exact xi17P X17 gs
      | 18, _ => exact xi18P X18 gs
      | c + 19, hc => exact absurd hc (by simp)
    · match c, hc with
      | 1, _ => exact xi1K X1 gs
      | 2, _ => exact xi2K X2 gs
      | 3, _ => exact xi3K X3 gs
      | 4, _ => exact xi4K X4 gs
      | 5, _ => exact xi5K X5 gs
      | 6, _ => exact xi6K X6 gs
      | 7, _ => exact xi7K X7 gs
      | 8, _ => exact xi8K X8 gs
      | 9, _ => exact xi9K X9 gs
      | 10, _ => exact xi10K X10 gs
      | 12, _ => exact xi12K X12 gs
      | 13, _ => exact xi13K X13 gs
      | 14, _ => exact xi14K X14 gs
      | 15, _ => exact xi15K X15 gs
      | 16, _ => exact xi16K X16 gs
      | c + 19, hc => exact absurd hc (by rw [flds_out (by omega)]; decide)
    · match c, hc with
      | 11, hc =>
        have h0 : (["line", "word"] : List Str) = [x1, x2] := hc
        have h1 := (List.cons.inj h0).1
        have h2 := (List.cons.inj (List.cons.inj h0).2).1
        rw [← h1, ← h2]
        exact xi11S X11 gs
      | 17, hc =>
        have h0 : (["what", "most"] : List Str) = [x1, x2] := hc
        have h1 := (List.cons.inj h0).1
        have h2 := (List.cons.inj (List.cons.inj h0).2).1
        rw [← h1, ← h2]
        exact xi17S X17 gs
      | c + 19, hc => exact absurd hc (by rw [flds_out (by omega)]; exact fun z => nomatch z)
  have F21 := fun_mk (st := top 21) m21 d21 p21
  have B21 := F21.binds (ps := ["_law_script"]) fun _ _ _ _ _ _ us hl => match us, hl with | [_], _ => rfl
  have F22 := fun_mk (st := top 22) m22 d22 p22
  have B22 := F22.binds (ps := ["_law_pen_here", "_law_many"]) fun _ _ _ _ _ _ us hl => match us, hl with | [_, _], _ => rfl
  have F23 := fun_mk (st := top 23) m23 d23 p23
  have B23 := F23.binds (ps := ["_law_pen_here", "_law_some"]) fun _ _ _ _ _ _ us hl => match us, hl with | [_, _], _ => rfl
  have F24 := fun_mk (st := top 24) m24 d24 p24
  have B24 := F24.binds (ps := ["_law_pen_here"]) fun _ _ _ _ _ _ us hl => match us, hl with | [_], _ => rfl
  have F25 := fun_mk (st := top 25) m25 d25 p25
  have B25 := F25.binds (ps := ["_law_error"]) fun _ _ _ _ _ _ us hl => match us, hl with | [_], _ => rfl
  have F26 := fun_mk (st := top 26) m26 d26 p26
  have B26 := F26.binds (ps := ["_law_one"]) fun _ _ _ _ _ _ us hl => match us, hl with | [_], _ => rfl
  have F27 := fun_mk (st := top 27) m27 d27 p27
  have B27 := F27.binds (ps := ["_law_one", "_law_two"]) fun _ _ _ _ _ _ us hl => match us, hl with | [_, _], _ => rfl
  have F28 := fun_mk (st := top 28) m28 d28 p28
  have B28 := F28.binds (ps := ["_law_script"]) fun _ _ _ _ _ _ us hl => match us, hl with | [_], _ => rfl
  refine ⟨fnOf "law" "law" (defArgs (top 28)) (defBody (top 28)) (defScope (top 28)) .none kVd28 dcd28 pmd28 and28 cdd28 ctd28, fun s u => BindsTo.of_eq rfl, fun base _ _ => ?_⟩
  have Cp : Cal P w K mg base 1 "_law_pen" ["_law_script"] (spPen K) := ⟨_, _, pen_fn F21 S_pen fun cdv A fr s H E => ps_penBody (x := "_law_script") (T.z "list" (by decide +kernel)) rfl (Or.inl rfl) (by decide) (by decide), mg_of KX G b21, p21, B21⟩
  have C_draw := (b_draw.2 (base := base) T ).cal F22 B22 (mg_of KX G b22) S_draw rfl
  have C_pick := (b_pick.2 (base := base) T C_draw).cal F23 B23 (mg_of KX G b23) S_pick rfl
  have C_thing := (b_thing.2 (base := base) T C_pick).cal F24 B24 (mg_of KX G b24) S_thing rfl
  have C_classes := (b_classes.2 (base := base) T ).cal F25 B25 (mg_of KX G b25) S_classes rfl
  have C_parted := (b_parted.2 (base := base) T ).cal F26 B26 (mg_of KX G b26) S_parted rfl
  have C_two_right := (b_two_right.2 (base := base) T ).cal F27 B27 (mg_of KX G b27) S_two_right rfl
  exact law_fn (fs := mLaw) F28 S_law (s1 := (defBody (top 28)).headD (.Pass ⟨0, 0, 0, 0⟩)) (rest := (defBody (top 28)).drop 1) rfl (by decide) (fun cdv A fr s H E hr => ps_pen (Cp) (hr.mono (by decide)) nd_law rfl rfl (Or.inl rfl) (Or.inl rfl) (by decide) (by decide))
    (fun m cdv A fr s H E hr tk po => b_law.2 T C_thing C_classes C_parted C_two_right _ m cdv A fr s H E hr tk po) law_ok
end K01

set_option Elab.async false
open PySem PySem.W PyProof.Rows in
set_option maxRecDepth 100000 in
set_option maxHeartbeats 0 in
theorem PySem.Challenge.cw_shiftspread_k01_errors_and_their_fields_holds : PySem.Challenge.rw_shiftspread_k01_errors_and_their_fields.Holds := by
  w_on; o_law; k_head; (case hw => w_witness2)
  k_fill
  refine DL.walkG (l := PySem.Challenge.rw_shiftspread_k01_errors_and_their_fields) (k := 4) (x := "_law_script") (sp := fun w => DL.spLaw _) rfl rfl ⟨⟨rfl, by decide, by decide⟩, rfl⟩ (fun w h Y => PySem.W.kIn_of Y) ?F (fun w H a ns h1 h2 h3 => ⟨a, ns, rfl, h3, h1, h2, fun _ => rfl⟩)
  case F =>
    intro w mg fa h KX G hmg
    refine' K01.all_mk KX G hmg ?a0 ?a1 ?a2 ?a3 ?a4 ?a5 ?a6 ?a7 ?a8 ?a9 ?a10 ?a11 ?a12 ?a13 ?a14 ?a15 ?a16 ?a17 ?a18 ?i1 ?l1 ?i2 ?l2 ?i3 ?l3 ?i4 ?l4 ?i5 ?l5 ?i6 ?l6 ?i7 ?l7 ?i8 ?l8 ?i9 ?l9 ?i10 ?l10 ?i11 ?l11 ?i12 ?l12 ?i13 ?l13 ?i14 ?l14 ?i15 ?l15 ?i16 ?l16 ?i17 ?l17 ?i18 ?l18 ?b21 ?m21 ?b22 ?m22 ?b23 ?m23 ?b24 ?m24 ?b25 ?m25 ?b26 ?m26 ?b27 ?m27 ?b28 ?m28 ?kc ?kx ?kd
    (case a0 => k_is)
    (case a1 => k_is)
    (case a2 => k_is)
    (case a3 => k_is)
    (case a4 => k_is)
    (case a5 => k_is)
    (case a6 => k_is)
    (case a7 => k_is)
    (case a8 => k_is)
    (case a9 => k_is)
    (case a10 => k_is)
    (case a11 => k_is)
    (case a12 => k_is)
    (case a13 => k_is)
    (case a14 => k_is)
    (case a15 => k_is)
    (case a16 => k_is)
    (case a17 => k_is)
    (case a18 => k_is)
    (case i1 => k_is)
    (case l1 => k_is)
    (case i2 => k_is)
    (case l2 => k_is)
    (case i3 => k_is)
    (case l3 => k_is)
    (case i4 => k_is)
    (case l4 => k_is)
    (case i5 => k_is)
    (case l5 => k_is)
    (case i6 => k_is)
    (case l6 => k_is)
    (case i7 => k_is)
    (case l7 => k_is)
    (case i8 => k_is)
    (case l8 => k_is)
    (case i9 => k_is)
    (case l9 => k_is)
    (case i10 => k_is)
    (case l10 => k_is)
    (case i11 => k_is)
    (case l11 => k_is)
    (case i12 => k_is)
    (case l12 => k_is)
    (case i13 => k_is)
    (case l13 => k_is)
    (case i14 => k_is)
    (case l14 => k_is)
    (case i15 => k_is)
    (case l15 => k_is)
    (case i16 => k_is)
    (case l16 => k_is)
    (case i17 => k_is)
    (case l17 => k_is)
    (case i18 => k_is)
    (case l18 => k_is)
    (case b21 => k_is)
    (case m21 => k_is)
    (case b22 => k_is)
    (case m22 => k_is)
    (case b23 => k_is)
    (case m23 => k_is)
    (case b24 => k_is)
    (case m24 => k_is)
    (case b25 => k_is)
    (case m25 => k_is)
    (case b26 => k_is)
    (case m26 => k_is)
    (case b27 => k_is)
    (case m27 => k_is)
    (case b28 => k_is)
    (case m28 => k_is)
    (case kc => kernel_rfl)
    (case kx => kernel_rfl)
    (case kd => kernel_rfl)

