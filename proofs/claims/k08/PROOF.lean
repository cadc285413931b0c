import PyProof.Rows.All
import Wide.All
import OpenK.AllK
import Wide.FinOn
import HandS.ForMost
import HandS.ForExc
import HandS.HeadHook1
import HandS.HeadHook2
import HandS.Deep
import HandS.TupAny
import HandS.IsInst
import HandS.Style
import HandS.Wide
import HandS.Walk
import HandS.Zip
import HandS.CallSlots
import HandS.Head0
import HandS.Head1
import HandS.Head2
import HandS.HeadEnd
import KE.GoesMore
import KE.GoesEnum
import HandS.Star
import HandS.Property
import HandS.ClsMeth
import HandS.MethStar
import HandS.ExcOwn
import HandS.HeadNt
import HandS.HeadHook3
import OpenK.KMeth
import OpenK.KOps
import KE.KOpsOwn
import HandS.Nested
import HandS.ExcSuper
import HandS.ExcInit
import KE.KExcSuper
import KE.KSuper
import HandS.Conv
import HandS.More
import HandS.TupLe
import HandS.Exc
import HandS.ExcField
import HandS.ExcIs
import HandS.HeadHook4
import PySem.Challenge.RW_shelfterms_k08_rule_refusals
set_option Elab.async false
set_option linter.all false
set_option maxRecDepth 100000
set_option maxHeartbeats 4000000
namespace Dl
open PySem L2
/-! ### data -/
inductive D where
  | non | bl (b : Bool) | int (i : Int) | str (s : Str)
  | tup (xs : List D) | lst (xs : List D) | scr (xs : List D) | obj (c : Str) (ns : List Str) (ds : List D) | dic (ks : List L2.Key) (ds : List D) | ty (n : String) | gl (x : Str)
deriving Inhabited

mutual
def Rep (K : PySem.W.Frag) (F : Hp) : D → V → Prop
  | .non, v => v = .non
  | .bl b, v => v = .bl b
  | .int i, v => v = .int i
  | .str s, v => v = .str s
  | .ty n, v => v = .ty n
  | .gl x, v => v = .ref (He.ga K x)
  | .tup xs, v => ∃ a vs, v = .ref a ∧ SqT K F a vs ∧ RepL K F xs vs
  | .lst xs, v => ∃ a vs, v = .ref a ∧ F a = some (.lst vs) ∧ RepL K F xs vs
  | .scr xs, v => ∃ a vs, v = .ref a ∧ SqL K F a vs ∧ RepL K F xs vs
  | .obj c ns ds, v => ∃ a dx vs, v = .ref a ∧ F a = some (.ins (He.ga K c) dx (ns.zip vs)) ∧ ns.length = ds.length ∧ RepL K F ds vs
  | .dic ks ds, v => ∃ a vs, v = .ref a ∧ F a = some (.dK (ks.zip vs)) ∧ ks.length = ds.length ∧ RepL K F ds vs
def RepL (K : PySem.W.Frag) (F : Hp) : List D → List V → Prop
  | [], vs => vs = []
  | x :: xs, vs => ∃ v ws, vs = v :: ws ∧ Rep K F x v ∧ RepL K F xs ws
end

section
variable {K : PySem.W.Frag} {F F' H H' : Hp}
theorem sqL_mono (e : Same F F') {a : Addr} {xs : List V} (h : SqL K F a xs) : SqL K F' a xs := e.seq h
theorem sqT_mono (e : Same F F') {a : Addr} {xs : List V} (h : SqT K F a xs) : SqT K F' a xs := by
  rcases h with (h | ⟨o, h⟩) | h
  · exact .inl (.inl (e _ _ h))
  · exact .inl (.inr ⟨o, e _ _ h⟩)
  · exact .inr h
mutual
theorem Rep.mono (e : Same F F') : ∀ (d : D) {v : V}, Rep K F d v → Rep K F' d v
  | .non, v, h => by simp only [Rep] at h ⊢; exact h
  | .bl b, v, h => by simp only [Rep] at h ⊢; exact h
  | .int i, v, h => by simp only [Rep] at h ⊢; exact h
  | .str s, v, h => by simp only [Rep] at h ⊢; exact h
  | .ty n, v, h => by simp only [Rep] at h ⊢; exact h
  | .gl x, v, h => by simp only [Rep] at h ⊢; exact h
  | .tup xs, v, h => by
    simp only [Rep] at h ⊢
    obtain ⟨a, vs, e1, e2, e3⟩ := h
    exact ⟨a, vs, e1, sqT_mono e e2, RepL.mono e xs e3⟩
  | .lst xs, v, h => by
    simp only [Rep] at h ⊢
    obtain ⟨a, vs, e1, e2, e3⟩ := h
    exact ⟨a, vs, e1, e _ _ e2, RepL.mono e xs e3⟩
  | .scr xs, v, h => by
    simp only [Rep] at h ⊢
    obtain ⟨a, vs, e1, e2, e3⟩ := h
    exact ⟨a, vs, e1, sqL_mono e e2, RepL.mono e xs e3⟩
  | .obj c ns ds, v, h => by
    simp only [Rep] at h ⊢
    obtain ⟨a, dx, vs, e1, e2, e4, e3⟩ := h
    exact ⟨a, dx, vs, e1, e _ _ e2, e4, RepL.mono e ds e3⟩
  | .dic ks ds, v, h => by
    simp only [Rep] at h ⊢
    obtain ⟨a, vs, e1, e2, e4, e3⟩ := h
    exact ⟨a, vs, e1, e _ _ e2, e4, RepL.mono e ds e3⟩
theorem RepL.mono (e : Same F F') : ∀ (xs : List D) {vs : List V}, RepL K F xs vs → RepL K F' xs vs
  | [], vs, h => by simp only [RepL] at h ⊢; exact h
  | x :: xs, vs, h => by
    simp only [RepL] at h ⊢
    obtain ⟨v, ws, e1, e2, e3⟩ := h
    exact ⟨v, ws, e1, Rep.mono e x e2, RepL.mono e xs e3⟩
end
theorem repL_nil {vs : List V} : RepL K F [] vs ↔ vs = [] := by simp only [RepL]
theorem repL_cons {x : D} {xs : List D} {vs : List V} : RepL K F (x :: xs) vs ↔ ∃ v ws, vs = v :: ws ∧ Rep K F x v ∧ RepL K F xs ws := by simp only [RepL]
theorem RepL.nil : RepL K F [] [] := repL_nil.mpr rfl
theorem RepL.cons {x : D} {xs : List D} {v : V} {vs : List V} (h : Rep K F x v) (t : RepL K F xs vs) : RepL K F (x :: xs) (v :: vs) := repL_cons.mpr ⟨v, vs, rfl, h, t⟩
theorem RepL.length : ∀ {xs : List D} {vs : List V}, RepL K F xs vs → xs.length = vs.length
  | [], vs, h => by rw [repL_nil.mp h]; rfl
  | x :: xs, vs, h => by
    obtain ⟨v, ws, rfl, _, t⟩ := repL_cons.mp h
    simp only [List.length_cons, t.length]
theorem RepL.get : ∀ {xs : List D} {vs : List V} {i : Nat} {d : D}, RepL K F xs vs → xs[i]? = some d → ∃ v, vs[i]? = some v ∧ Rep K F d v
  | [], vs, i, d, h, e => by simp at e
  | x :: xs, vs, 0, d, h, e => by
    obtain ⟨v, ws, rfl, r, t⟩ := repL_cons.mp h
    simp at e
    subst e
    exact ⟨v, by simp, r⟩
  | x :: xs, vs, i + 1, d, h, e => by
    obtain ⟨v, ws, rfl, r, t⟩ := repL_cons.mp h
    simpa using t.get (i := i) (d := d) (by simpa using e)
theorem RepL.getV : ∀ {xs : List D} {vs : List V} {i : Nat} {v : V}, RepL K F xs vs → vs[i]? = some v → ∃ d, xs[i]? = some d ∧ Rep K F d v
  | [], vs, i, d, h, e => by rw [repL_nil.mp h] at e; simp at e
  | x :: xs, vs, 0, d, h, e => by
    obtain ⟨v, ws, rfl, r, t⟩ := repL_cons.mp h
    simp at e
    subst e
    exact ⟨x, by simp, r⟩
  | x :: xs, vs, i + 1, d, h, e => by
    obtain ⟨v, ws, rfl, r, t⟩ := repL_cons.mp h
    simpa using t.getV (i := i) (v := d) (by simpa using e)
theorem RepL.append : ∀ {xs ys : List D} {vs ws : List V}, RepL K F xs vs → RepL K F ys ws → RepL K F (xs ++ ys) (vs ++ ws)
  | [], ys, vs, ws, h, g => by rw [repL_nil.mp h]; exact g
  | x :: xs, ys, vs, ws, h, g => by
    obtain ⟨v, us, rfl, r, t⟩ := repL_cons.mp h
    exact RepL.cons r (t.append g)
theorem RepL.take : ∀ {xs : List D} {vs : List V} (n : Nat), RepL K F xs vs → RepL K F (xs.take n) (vs.take n)
  | xs, vs, 0, h => by simpa using RepL.nil
  | [], vs, n + 1, h => by rw [repL_nil.mp h]; simpa using RepL.nil
  | x :: xs, vs, n + 1, h => by
    obtain ⟨v, us, rfl, r, t⟩ := repL_cons.mp h
    exact RepL.cons r (t.take n)
theorem RepL.drop : ∀ {xs : List D} {vs : List V} (n : Nat), RepL K F xs vs → RepL K F (xs.drop n) (vs.drop n)
  | xs, vs, 0, h => by simpa using h
  | [], vs, n + 1, h => by rw [repL_nil.mp h]; simpa using RepL.nil
  | x :: xs, vs, n + 1, h => by
    obtain ⟨v, us, rfl, r, t⟩ := repL_cons.mp h
    exact t.drop n
theorem RepL.set : ∀ {xs : List D} {vs : List V} {d : D} {v : V} (i : Nat), RepL K F xs vs → Rep K F d v → RepL K F (xs.set i d) (vs.set i v)
  | [], vs, d, v, i, h, r => by rw [repL_nil.mp h]; exact RepL.nil
  | x :: xs, vs, d, v, 0, h, r => by
    obtain ⟨u, us, rfl, _, t⟩ := repL_cons.mp h
    exact RepL.cons r t
  | x :: xs, vs, d, v, i + 1, h, r => by
    obtain ⟨u, us, rfl, q, t⟩ := repL_cons.mp h
    exact RepL.cons q (t.set i r)
theorem RepL.one {d : D} {v : V} (h : Rep K F d v) : RepL K F [d] [v] := RepL.cons h RepL.nil
end

/-! ### states -/
structure Exn where
  cls : Str
  ns : List Str
  ds : List D
/-- an exception of the data -/
def XR (K : PySem.W.Frag) (F : Hp) (x : Exn) (c : Value) (d : Option Addr) : Prop :=
  c = .ref (He.ga K x.cls) ∧ ((x.ns = [] ∧ x.ds = []) ∨ ∃ dd vs, d = some dd ∧ F dd = some (.xd (x.ns.zip vs)) ∧ x.ns.length = x.ds.length ∧ RepL K F x.ds vs)
theorem XR.mono {K : PySem.W.Frag} {F F' : Hp} {x : Exn} {c : Value} {d : Option Addr} (e : Same F F') (h : XR K F x c d) : XR K F' x c d := by
  obtain ⟨h1, h2⟩ := h
  refine ⟨h1, ?_⟩
  rcases h2 with h2 | ⟨dd, vs, k1, k2, k3, k4⟩
  · exact .inl h2
  · exact .inr ⟨dd, vs, k1, e _ _ k2, k3, RepL.mono e x.ds k4⟩
/-- the exception that is being handled: its address, its class, its dict -/
class ExI where
  ex : Option (Addr × Value × Option Addr)
inductive S where
  | val (d : D) | own (xs : List D) | bor (xs : List D) | slf (c : Str) (ns : List Str) (ds : List D) | exc (x : Exn)
abbrev DSt := List (Option S)
inductive R where
  | val (d : D) | at (i : Nat) | tmp (xs : List D)
inductive Out (α : Type) where
  | ok (a : α) (st : DSt) | exc (x : Exn) (st : DSt) | bad
inductive Fl where
  | nx (st : DSt) | rt (r : R) (st : DSt) | bk (st : DSt) | ct (st : DSt) | exc (x : Exn) (st : DSt) | bad
abbrev DX := DSt → Out R
abbrev DT := DSt → Out Bool
abbrev DA := DSt → Out (List R)
abbrev DS := DSt → Fl

/-- the entry of a def: the frozen heap, the heap, the borrowed objects by slot -/
structure Ent where
  F0 : Hp
  H0 : Hp
  B : Nat → Option Addr
  me : Option Addr

def OwnAt (st : DSt) (σ : L2.St) (p : Addr) : Prop := ∃ (i : Nat) (xs : List D), (st[i]? = some (some (.own xs)) ∨ st[i]? = some (some (.bor xs))) ∧ σ[i]? = some (some (.ref p))

structure SR [I : ExI] (K : PySem.W.Frag) (E : Ent) (F H : Hp) (st : DSt) (σ : L2.St) : Prop where
  len : st.length = σ.length
  ex : Same F H
  val : ∀ (i : Nat) d, st[i]? = some (some (.val d)) → ∃ v, σ[i]? = some (some v) ∧ Rep K F d v
  own : ∀ (i : Nat) xs, st[i]? = some (some (.own xs)) → ∃ p vs, σ[i]? = some (some (.ref p)) ∧ F p = none ∧ H p = some (.lst vs) ∧ RepL K F xs vs ∧ E.H0 p = none
  bor : ∀ (i : Nat) xs, st[i]? = some (some (.bor xs)) → ∃ p vs, σ[i]? = some (some (.ref p)) ∧ F p = none ∧ H p = some (.lst vs) ∧ RepL K F xs vs ∧ E.B i = some p
  sep : ∀ (i j : Nat) xs ys p, (st[i]? = some (some (.own xs)) ∨ st[i]? = some (some (.bor xs))) → (st[j]? = some (some (.own ys)) ∨ st[j]? = some (some (.bor ys))) → σ[i]? = some (some (.ref p)) → σ[j]? = some (some (.ref p)) → i = j
  fF : ∀ a o, E.H0 a = some o → F a = E.F0 a
  fE : Same E.F0 F
  fH : ∀ a o, E.H0 a = some o → (∀ i, E.B i ≠ some a) → H a = some o
  fB : ∀ i p, E.B i = some p → H p ≠ none
  slf : ∀ (i : Nat) c ns ds, st[i]? = some (some (.slf c ns ds)) → ∃ p dx vs, σ[i]? = some (some (.ref p)) ∧ E.me = some p ∧ E.H0 p = some (.ins (He.ga K c) dx (ns.zip vs)) ∧ (∀ j, E.B j ≠ some p) ∧ E.F0 p = none ∧ ns.length = vs.length ∧ RepL K E.F0 ds vs
  exc : ∀ (i : Nat) x, st[i]? = some (some (.exc x)) → ∃ a cls d, I.ex = some (a, cls, d) ∧ σ[i]? = some (some (.ref a)) ∧ XR K F x cls d

variable [ExI]
structure Stp (F H : Hp) (st : DSt) (σ : L2.St) (F' H' : Hp) (st' : DSt) : Prop where
  ex : Same F F'
  keep : ∀ a o, H a = some o → ¬ OwnAt st σ a → H' a = some o ∧ F' a = F a
  own : ∀ p, OwnAt st' σ p → OwnAt st σ p
  dfd : ∀ (i : Nat) s, st[i]? = some (some s) → ∃ s', st'[i]? = some (some s')
  live : ∀ a, H' a = none → H a = none

theorem Stp.refl (F H : Hp) (st : DSt) (σ : L2.St) : Stp F H st σ F H st := ⟨Same.refl F, fun _ _ h _ => ⟨h, rfl⟩, fun _ h => h, fun _ s h => ⟨s, h⟩, fun _ h => h⟩
theorem Stp.trans {F H F1 H1 F2 H2 : Hp} {st st1 st2 : DSt} {σ : L2.St} (a : Stp F H st σ F1 H1 st1) (b : Stp F1 H1 st1 σ F2 H2 st2) : Stp F H st σ F2 H2 st2 :=
  ⟨a.ex.trans b.ex, fun x o h n => by
    obtain ⟨h1, e1⟩ := a.keep x o h n
    obtain ⟨h2, e2⟩ := b.keep x o h1 fun q => n (a.own x q)
    exact ⟨h2, e2.trans e1⟩, fun p h => a.own p (b.own p h), fun i s h => by
    obtain ⟨s1, h1⟩ := a.dfd i s h
    exact b.dfd i s1 h1, fun x h => a.live x (b.live x h)⟩

def RR (K : PySem.W.Frag) (E : Ent) (B F H : Hp) (st : DSt) (σ : L2.St) : R → V → Prop
  | .val d, v => Rep K F d v
  | .at i, v => σ[i]? = some (some v) ∧ ∃ s, st[i]? = some (some s)
  | .tmp xs, v => ∃ p vs, v = .ref p ∧ F p = none ∧ H p = some (.lst vs) ∧ RepL K F xs vs ∧ ¬ OwnAt st σ p ∧ E.H0 p = none ∧ B p = none

def look (st : DSt) : R → Option D
  | .val d => some d
  | .at i => match st[i]? with
    | some (some (.val d)) => some d
    | some (some (.own xs)) => some (.lst xs)
    | some (some (.bor xs)) => some (.lst xs)
    | _ => none
  | .tmp xs => some (.lst xs)

section
variable {K : PySem.W.Frag} {E : Ent} {B B' F H F' H' : Hp} {st st' : DSt} {σ : L2.St} {r : R} {v : V} {d : D}
theorem RR.step (h : RR K E B F H st σ r v) (p : Stp F H st σ F' H' st') : RR K E B F' H' st' σ r v := by
  cases r with
  | val d => exact Rep.mono p.ex d h
  | «at» i =>
    obtain ⟨h1, s, h2⟩ := h
    exact ⟨h1, p.dfd i s h2⟩
  | tmp xs =>
    obtain ⟨q, vs, e1, e2, e3, e4, e5, e6, e7⟩ := h
    obtain ⟨k1, k2⟩ := p.keep q _ e3 e5
    exact ⟨q, vs, e1, k2.trans e2, k1, RepL.mono p.ex xs e4, fun z => e5 (p.own q z), e6, e7⟩
theorem RR.base (h : RR K E B' F H st σ r v) (l : ∀ a, B' a = none → B a = none) : RR K E B F H st σ r v := by
  cases r with
  | val d => exact h
  | «at» i => exact h
  | tmp xs =>
    obtain ⟨q, vs, e1, e2, e3, e4, e5, e6, e7⟩ := h
    exact ⟨q, vs, e1, e2, e3, e4, e5, e6, l q e7⟩
theorem look_at {i : Nat} : look st (.at i) = some d → (st[i]? = some (some (.val d)) ∨ ∃ xs, d = .lst xs ∧ (st[i]? = some (some (.own xs)) ∨ st[i]? = some (some (.bor xs)))) := by
  intro h
  simp only [look] at h
  split at h
  · rename_i d' e
    cases h
    exact .inl e
  · rename_i xs e
    cases h
    exact .inr ⟨xs, rfl, .inl e⟩
  · rename_i xs e
    cases h
    exact .inr ⟨xs, rfl, .inr e⟩
  · cases h
/-- a list looked at: it stands in the heap, its items are frozen data -/
theorem look_list {xs : List D} (s : SR K E F H st σ) (h : RR K E B F H st σ r v) (l : look st r = some (.lst xs)) : ∃ a vs, v = .ref a ∧ H a = some (.lst vs) ∧ RepL K F xs vs := by
  have fromVal : Rep K F (.lst xs) v → ∃ a vs, v = .ref a ∧ H a = some (.lst vs) ∧ RepL K F xs vs := fun q => by
    simp only [Rep] at q
    obtain ⟨a, vs, e1, e2, e3⟩ := q
    exact ⟨a, vs, e1, s.ex _ _ e2, e3⟩
  cases r with
  | val d =>
    cases l
    exact fromVal h
  | «at» i =>
    obtain ⟨h1, _⟩ := h
    rcases look_at l with e | ⟨ys, e0, e | e⟩
    · obtain ⟨w, q1, q2⟩ := s.val i _ e
      rw [h1] at q1
      cases q1
      exact fromVal q2
    · cases e0
      obtain ⟨p, vs, q1, q2, q3, q4, q5⟩ := s.own i _ e
      rw [h1] at q1
      cases q1
      exact ⟨p, vs, rfl, q3, q4⟩
    · cases e0
      obtain ⟨p, vs, q1, q2, q3, q4, q5⟩ := s.bor i _ e
      rw [h1] at q1
      cases q1
      exact ⟨p, vs, rfl, q3, q4⟩
  | tmp ys =>
    cases l
    obtain ⟨q, vs, e1, e2, e3, e4, _⟩ := h
    exact ⟨q, vs, e1, e3, e4⟩
theorem notlst_val (s : SR K E F H st σ) (h : RR K E B F H st σ r v) (l : look st r = some d) (n : ∀ xs, d ≠ .lst xs) : Rep K F d v := by
  cases r with
  | val d =>
    cases l
    exact h
  | «at» i =>
    obtain ⟨h1, _⟩ := h
    rcases look_at l with e | ⟨ys, e0, _⟩
    · obtain ⟨w, q1, q2⟩ := s.val i _ e
      rw [h1] at q1
      cases q1
      exact q2
    · exact absurd e0 (n ys)
  | tmp ys =>
    cases l
    exact absurd rfl (n ys)
theorem look_tup {xs : List D} (s : SR K E F H st σ) (h : RR K E B F H st σ r v) (l : look st r = some (.tup xs)) : ∃ a vs, v = .ref a ∧ SqT K F a vs ∧ RepL K F xs vs := by
  have q := notlst_val s h l (fun _ z => nomatch z)
  simp only [Rep] at q
  exact q
theorem look_int {i : Int} (s : SR K E F H st σ) (h : RR K E B F H st σ r v) (l : look st r = some (.int i)) : v = .int i := by
  have q := notlst_val s h l (fun _ z => nomatch z)
  simp only [Rep] at q
  exact q
theorem look_bl {b : Bool} (s : SR K E F H st σ) (h : RR K E B F H st σ r v) (l : look st r = some (.bl b)) : v = .bl b := by
  have q := notlst_val s h l (fun _ z => nomatch z)
  simp only [Rep] at q
  exact q
theorem look_str {x : Str} (s : SR K E F H st σ) (h : RR K E B F H st σ r v) (l : look st r = some (.str x)) : v = .str x := by
  have q := notlst_val s h l (fun _ z => nomatch z)
  simp only [Rep] at q
  exact q
theorem look_non (s : SR K E F H st σ) (h : RR K E B F H st σ r v) (l : look st r = some .non) : v = .non := by
  have q := notlst_val s h l (fun _ z => nomatch z)
  simp only [Rep] at q
  exact q
/-- as data of the whole heap -/
theorem look_rep (s : SR K E F H st σ) (h : RR K E B F H st σ r v) (l : look st r = some d) : Rep K H d v := by
  by_cases e : ∃ xs, d = .lst xs
  · obtain ⟨xs, rfl⟩ := e
    obtain ⟨a, vs, e1, e2, e3⟩ := look_list s h l
    simp only [Rep]
    exact ⟨a, vs, e1, e2, RepL.mono s.ex xs e3⟩
  · exact Rep.mono s.ex d (notlst_val s h l fun xs z => e ⟨xs, z⟩)

/-! ### new objects -/
theorem free_F (e : Same F H) {p : Addr} (h : H p = none) : F p = none := by
  cases q : F p with
  | none => rfl
  | some o =>
    rw [e p o q] at h
    cases h
theorem SR.notOwn (s : SR K E F H st σ) {p : Addr} (h : H p = none) : ¬ OwnAt st σ p := by
  rintro ⟨i, xs, e | e, q⟩
  · obtain ⟨p', vs, q1, q2, q3, _⟩ := s.own i xs e
    rw [q] at q1
    cases q1
    rw [q3] at h
    cases h
  · obtain ⟨p', vs, q1, q2, q3, _⟩ := s.bor i xs e
    rw [q] at q1
    cases q1
    rw [q3] at h
    cases h
theorem SR.fresh0 (s : SR K E F H st σ) {p : Addr} (h : H p = none) : E.H0 p = none := by
  cases q : E.H0 p with
  | none => rfl
  | some o =>
    by_cases b : ∃ i, E.B i = some p
    · obtain ⟨i, hi⟩ := b
      exact absurd h (s.fB i p hi)
    · rw [s.fH p o q fun i z => b ⟨i, z⟩] at h
      cases h
/-- a heap that grows (the new objects frozen or not) -/
theorem SR.grow {o : HO} {p : Addr} (s : SR K E F H st σ) (h : H p = none) : SR K E F (upd H p o) st σ := by
  refine ⟨s.len, fun a u e => ?_, s.val, fun i xs e => ?_, fun i xs e => ?_, s.sep, s.fF, s.fE, fun a u e n => ?_, fun i q e => ?_, s.slf, s.exc⟩
  · have k := s.ex a u e
    rw [upd_ne (ne_of_none k h)]
    exact k
  · obtain ⟨q, vs, q1, q2, q3, q4, q5⟩ := s.own i xs e
    exact ⟨q, vs, q1, q2, by rw [upd_ne (ne_of_none q3 h)]; exact q3, q4, q5⟩
  · obtain ⟨q, vs, q1, q2, q3, q4, q5⟩ := s.bor i xs e
    exact ⟨q, vs, q1, q2, by rw [upd_ne (ne_of_none q3 h)]; exact q3, q4, q5⟩
  · have k := s.fH a u e n
    rw [upd_ne (ne_of_none k h)]
    exact k
  · unfold upd
    split
    · exact fun z => nomatch z
    · exact s.fB i q e
theorem SR.growF {o : HO} {p : Addr} (s : SR K E F H st σ) (h : H p = none) : SR K E (upd F p o) (upd H p o) st σ := by
  have g := s.grow (o := o) h
  have hF := free_F s.ex h
  have e1 : Same F (upd F p o) := fun a u e => by
    rw [upd_ne (ne_of_none e hF)]
    exact e
  have f0 := s.fresh0 h
  refine ⟨s.len, fun a u e => ?_, fun i d e => ?_, fun i xs e => ?_, fun i xs e => ?_, s.sep, fun a u e => ?_, s.fE.trans e1, g.fH, g.fB, s.slf, fun i x e => by
    obtain ⟨a, cls, d, q1, q2, q3⟩ := s.exc i x e
    exact ⟨a, cls, d, q1, q2, q3.mono e1⟩⟩
  · by_cases z : a = p
    · subst z
      rw [upd_same] at e ⊢
      exact e
    · rw [upd_ne z] at e ⊢
      exact s.ex a u e
  · obtain ⟨v, q1, q2⟩ := s.val i d e
    exact ⟨v, q1, Rep.mono e1 d q2⟩
  · obtain ⟨q, vs, q1, q2, q3, q4, q5⟩ := s.own i xs e
    have n : q ≠ p := ne_of_none q3 h
    exact ⟨q, vs, q1, by rw [upd_ne n]; exact q2, by rw [upd_ne n]; exact q3, RepL.mono e1 xs q4, q5⟩
  · obtain ⟨q, vs, q1, q2, q3, q4, q5⟩ := s.bor i xs e
    have n : q ≠ p := ne_of_none q3 h
    exact ⟨q, vs, q1, by rw [upd_ne n]; exact q2, by rw [upd_ne n]; exact q3, RepL.mono e1 xs q4, q5⟩
  · rw [upd_ne (ne_of_none e f0)]
    exact s.fF a u e
theorem SR.stpGrow {o : HO} {p : Addr} (s : SR K E F H st σ) (h : H p = none) : Stp F H st σ F (upd H p o) st :=
  ⟨Same.refl F, fun a u e _ => ⟨by rw [upd_ne (ne_of_none e h)]; exact e, rfl⟩, fun _ q => q, fun _ u q => ⟨u, q⟩, fun a q => by
    unfold upd at q
    split at q
    · cases q
    · exact q⟩
theorem SR.stpGrowF {o : HO} {p : Addr} (s : SR K E F H st σ) (h : H p = none) : Stp F H st σ (upd F p o) (upd H p o) st :=
  ⟨fun a u e => by rw [upd_ne (ne_of_none e (free_F s.ex h))]; exact e, fun a u e _ => ⟨by rw [upd_ne (ne_of_none e h)]; exact e, by rw [upd_ne (ne_of_none e h)]⟩, fun _ q => q, fun _ u q => ⟨u, q⟩, fun a q => by
    unfold upd at q
    split at q
    · cases q
    · exact q⟩
end
end Dl

namespace Dl
open PySem L2
variable [ExI]

abbrev Rel (α β : Type) := Ent → Hp → Hp → Hp → DSt → L2.St → α → β → Prop
def Cont {α β : Type} (K : PySem.W.Frag) (W : WX) (rel : Rel α β) (E : Ent) (F H : Hp) (st : DSt) (σ : L2.St) (o : Out α) (Q : β → Hp → Prop) : Prop :=
  match o with
  | .ok a st' => ∀ b F' H', SR K E F' H' st' σ → Stp F H st σ F' H' st' → rel E H F' H' st' σ a b → Q b H'
  | .exc x st' => ∀ c d F' H', SR K E F' H' st' σ → Stp F H st σ F' H' st' → XR K F' x c d → W c d σ H'
  | .bad => False
def Rd {α β : Type} (K : PySem.W.Frag) (W : WX) (rel : Rel α β) (f : DSt → Out α) : L2.St → Hp → (β → Hp → Prop) → Prop :=
  fun σ H Q => ∃ E F st, SR K E F H st σ ∧ Cont K W rel E F H st σ (f st) Q
def relB : Rel Bool Bool := fun _ _ _ _ _ _ a b => a = b
def TSep : List R → List V → Prop
  | .tmp _ :: rs, v :: vs => (∀ (j : Nat) ys, rs[j]? = some (.tmp ys) → vs[j]? ≠ some v) ∧ TSep rs vs
  | _ :: rs, _ :: vs => TSep rs vs
  | _, _ => True
def relA (K : PySem.W.Frag) : Rel (List R) (List V) := fun E B F H st σ rs vs => Paired (RR K E B F H st σ) rs vs ∧ TSep rs vs
abbrev RdE (K : PySem.W.Frag) (W : WX) (f : DX) : TE := Rd K W (RR K) f
abbrev RdT (K : PySem.W.Frag) (W : WX) (f : DT) : TT := Rd K W relB f
abbrev RdA (K : PySem.W.Frag) (W : WX) (f : DA) : TA := Rd K W (relA K) f
structure DE (X : Cx) (W : WX) (e : Expr) (f : DX) : Prop where
  pe : PE X e (RdE X.K W f)
structure DTs (X : Cx) (W : WX) (e : Expr) (f : DT) : Prop where
  pt : PT X e (RdT X.K W f)
structure DAs (X : Cx) (W : WX) (es : List Expr) (f : DA) : Prop where
  pa : PA X es (RdA X.K W f)

theorem pe_imp {X : Cx} {e : Expr} {t t' : TE} (h : PE X e t) (i : ∀ σ H Q, t' σ H Q → t σ H Q) : PE X e t' := ⟨fun pins s σ H Q I q => h.run pins s σ H Q I (i σ H Q q)⟩
theorem pt_imp {X : Cx} {e : Expr} {t t' : TT} (h : PT X e t) (i : ∀ σ H Q, t' σ H Q → t σ H Q) : PT X e t' := ⟨fun pins s σ H Q I q => h.run pins s σ H Q I (i σ H Q q)⟩
theorem pw_imp {X : Cx} {e : Expr} {t t' : TT} (h : PW X e t) (i : ∀ σ H Q, t' σ H Q → t σ H Q) : PW X e t' := ⟨fun wh pins s σ H Q I q => h.run wh pins s σ H Q I (i σ H Q q)⟩
theorem pa_imp {X : Cx} {es : List Expr} {t t' : TA} (h : PA X es t) (i : ∀ σ H Q, t' σ H Q → t σ H Q) : PA X es t' := ⟨fun pos pins s σ H Q I q => h.run pos pins s σ H Q I (i σ H Q q)⟩

def bnd {α β : Type} (f : DSt → Out α) (g : α → DSt → Out β) : DSt → Out β := fun st => match f st with
  | .ok a st' => g a st'
  | .exc x st' => .exc x st'
  | .bad => .bad

section
variable {K : PySem.W.Frag} {W : WX} {E : Ent} {F H F1 H1 : Hp} {st st1 : DSt} {σ : L2.St} {α β γ δ : Type} {rel : Rel α β} {rel2 : Rel γ δ} {o : Out α} {Q Q' : β → Hp → Prop}
theorem Cont.mono (h : Cont K W rel E F H st σ o Q) (i : ∀ b H', Q b H' → Q' b H') : Cont K W rel E F H st σ o Q' := by
  cases o with
  | ok a st' => exact fun b F' H' s p r => i _ _ (h b F' H' s p r)
  | exc x st' => exact h
  | bad => exact h
/-- a part is read from where one stands, then the rest; the base stays -/
theorem Cont.next {f : DSt → Out γ} {g : γ → DSt → Out α} {q : δ → Hp → Prop} (p : Stp F H st σ F1 H1 st1) (h : Cont K W rel E F H st σ (bnd f g st1) Q)
    (k : ∀ b F2 H2 st2 a, SR K E F2 H2 st2 σ → Stp F1 H1 st1 σ F2 H2 st2 → Stp F H st σ F2 H2 st2 → rel2 E H1 F2 H2 st2 σ a b → Cont K W rel E F H st σ (g a st2) Q → q b H2) :
    Cont K W rel2 E F1 H1 st1 σ (f st1) q := by
  unfold bnd at h
  cases e : f st1 with
  | ok a st' =>
    rw [e] at h
    exact fun b F' H' s p' r => k b F' H' st' a s p' (p.trans p') r h
  | exc x st' =>
    rw [e] at h
    exact fun c d F' H' s p' r => h c d F' H' s (p.trans p') r
  | bad =>
    rw [e] at h
    exact h
theorem Rd.next {f : DSt → Out γ} {g : γ → DSt → Out α} {q : δ → Hp → Prop} (s : SR K E F1 H1 st1 σ) (p : Stp F H st σ F1 H1 st1) (h : Cont K W rel E F H st σ (bnd f g st1) Q)
    (k : ∀ b F2 H2 st2 a, SR K E F2 H2 st2 σ → Stp F1 H1 st1 σ F2 H2 st2 → Stp F H st σ F2 H2 st2 → rel2 E H1 F2 H2 st2 σ a b → Cont K W rel E F H st σ (g a st2) Q → q b H2) : Rd K W rel2 f σ H1 q :=
  ⟨E, F1, st1, s, Cont.next p h k⟩
theorem Rd.first {f : DSt → Out γ} {g : γ → DSt → Out α} {q : δ → Hp → Prop} (s : SR K E F H st σ) (h : Cont K W rel E F H st σ (bnd f g st) Q)
    (k : ∀ b F1 H1 st1 a, SR K E F1 H1 st1 σ → Stp F H st σ F1 H1 st1 → rel2 E H F1 H1 st1 σ a b → Cont K W rel E F H st σ (g a st1) Q → q b H1) : Rd K W rel2 f σ H q :=
  Rd.next s (Stp.refl F H st σ) h fun b F2 H2 st2 a s2 p1 _ r c => k b F2 H2 st2 a s2 p1 r c
end

/-! ### names and constants -/
def dVar (i : Nat) : DX := fun st => match st[i]? with
  | some (some (.val d)) => .ok (.val d) st
  | some (some _) => .ok (.at i) st
  | _ => .bad
def dC (d : D) : DX := fun st => .ok (.val d) st
section
variable {X : Cx} {W : WX}
theorem de_var {i : Nat} {e : Expr} (h : PE X e (tVar i)) : DE X W e (dVar i) := by
  refine ⟨pe_imp h fun σ H Q ⟨E, F, st, s, q⟩ => ?_⟩
  unfold dVar at q
  split at q
  · rename_i d e
    obtain ⟨v, h1, h2⟩ := s.val i d e
    exact ⟨v, h1, q v F H s (Stp.refl F H st σ) h2⟩
  · rename_i z _ e
    have hv : ∃ v, σ[i]? = some (some v) := by
      cases z with
      | val d =>
        obtain ⟨v, h1, _⟩ := s.val i d e
        exact ⟨v, h1⟩
      | own xs =>
        obtain ⟨p, _, h1, _⟩ := s.own i xs e
        exact ⟨_, h1⟩
      | bor xs =>
        obtain ⟨p, _, h1, _⟩ := s.bor i xs e
        exact ⟨_, h1⟩
      | slf c ns ds =>
        obtain ⟨p, _, _, h1, _⟩ := s.slf i c ns ds e
        exact ⟨_, h1⟩
      | exc x =>
        obtain ⟨a, _, _, _, h1, _⟩ := s.exc i x e
        exact ⟨_, h1⟩
    obtain ⟨v, hv⟩ := hv
    exact ⟨v, hv, q v F H s (Stp.refl F H st σ) ⟨hv, _, e⟩⟩
  · exact q.elim
theorem de_const {e : Expr} {v : V} {d : D} (h : PE X e (tC v)) (r : ∀ F, Rep X.K F d v) : DE X W e (dC d) :=
  ⟨pe_imp h fun σ H Q ⟨E, F, st, s, q⟩ => q v F H s (Stp.refl F H st σ) (r F)⟩
theorem de_int {i : Int} {j : Nat} {pos : Pos} : DE X W (.Constant (.int i) j pos) (dC (.int i)) := de_const pe_int fun F => by simp only [Rep]
theorem de_bl {b : Bool} {j : Nat} {pos : Pos} : DE X W (.Constant (.bool b) j pos) (dC (.bl b)) := de_const pe_bl fun F => by simp only [Rep]
theorem de_non {j : Nat} {pos : Pos} : DE X W (.Constant .none j pos) (dC .non) := de_const pe_non fun F => by simp only [Rep]
theorem de_str {z : Str} {j : Nat} {pos : Pos} : DE X W (.Constant (.str z) j pos) (dC (.str z)) := de_const pe_str fun F => by simp only [Rep]

/-! ### operations -/
abbrev O1 := R → DSt → Out R
abbrev O2 := R → R → DSt → Out R
abbrev ON := List R → DSt → Out R
/-- where an operation stands: Fb, Hb, stb the base -/
def P1 (K : PySem.W.Frag) (W : WX) (r : V → Hp → VK → Prop) (op : O1) : Prop := ∀ E Fb Hb stb F H st σ r1 v Q, SR K E F H st σ → Stp Fb Hb stb σ F H st → RR K E Hb F H st σ r1 v →
  Cont K W (RR K) E Fb Hb stb σ (op r1 st) Q → r v H Q
def P2 (K : PySem.W.Frag) (W : WX) (r : R2) (op : O2) : Prop := ∀ E Fb Hb stb F H st σ r1 r2 v w Q, SR K E F H st σ → Stp Fb Hb stb σ F H st → RR K E Hb F H st σ r1 v → RR K E Hb F H st σ r2 w →
  Cont K W (RR K) E Fb Hb stb σ (op r1 r2 st) Q → r v w H Q
def PN (K : PySem.W.Frag) (W : WX) (r : List V → Hp → VK → Prop) (op : ON) : Prop := ∀ E Fb Hb stb F H st σ rs vs Q, SR K E F H st σ → Stp Fb Hb stb σ F H st → relA K E Hb F H st σ rs vs →
  Cont K W (RR K) E Fb Hb stb σ (op rs st) Q → r vs H Q
def dOp1 (op : O1) (fa : DX) : DX := bnd fa op
def dOp2 (op : O2) (fa fb : DX) : DX := bnd fa fun r1 => bnd fb fun r2 => op r1 r2
variable {a b : Expr} {fa fb : DX} {pos : Pos}
theorem rd_op2 {K : PySem.W.Frag} {r : R2} {op : O2} (h : P2 K W r op) {σ : L2.St} {H : Hp} {Q : VK} (q : RdE K W (dOp2 op fa fb) σ H Q) : tOp r (RdE K W fa) (RdE K W fb) σ H Q := by
  obtain ⟨E, F, st, s, q⟩ := q
  refine Rd.first s q fun v F1 H1 st1 r1 s1 p1 h1 q1 => ?_
  refine Rd.next s1 p1 q1 fun w F2 H2 st2 r2 s2 p2 p h2 q2 => ?_
  exact h E F H st F2 H2 st2 σ r1 r2 v w Q s2 p (h1.step p2) (h2.base p1.live) q2
theorem rd_op1 {K : PySem.W.Frag} {r : V → Hp → VK → Prop} {op : O1} (h : P1 K W r op) {σ : L2.St} {H : Hp} {Q : VK} (q : RdE K W (dOp1 op fa) σ H Q) : tUn r (RdE K W fa) σ H Q := by
  obtain ⟨E, F, st, s, q⟩ := q
  exact Rd.first s q fun v F1 H1 st1 r1 s1 p1 h1 q1 => h E F H st F1 H1 st1 σ r1 v Q s1 p1 h1 q1
theorem de_op {o : Operator} {r : R2} {op : O2} (ho : OpR X (binaryOp o) r) (hp : P2 X.K W r op) (ha : DE X W a fa) (hb : DE X W b fb) : DE X W (.BinOp a o b pos) (dOp2 op fa fb) :=
  ⟨pe_imp (pe_op ho ha.pe hb.pe) fun _ _ _ q => rd_op2 hp q⟩
theorem de_un {o : UnaryOp} {r : V → Hp → VK → Prop} {op : O1} (ho : UnR X (unaryOp o) r) (hp : P1 X.K W r op) (ha : DE X W a fa) : DE X W (.UnaryOp o a pos) (dOp1 op fa) :=
  ⟨pe_imp (pe_un ho ha.pe) fun _ _ _ q => rd_op1 hp q⟩
theorem de_cmp {o : CmpOp} {r : R2} {op : O2} (ho : OpR X (compareOp o) r) (hp : P2 X.K W r op) (ha : DE X W a fa) (hb : DE X W b fb) (hm : behindInMarks o b = false) : DE X W (.Compare a [o] [b] pos) (dOp2 op fa fb) :=
  ⟨pe_imp (pe_cmpR ho ha.pe hb.pe hm) fun _ _ _ q => rd_op2 hp q⟩
theorem de_ix {r : R2} {op : O2} (ho : IxR X r) (hp : P2 X.K W r op) (ha : DE X W a fa) (hb : DE X W b fb) (hs : PlainIx b) : DE X W (.Subscript a b pos) (dOp2 op fa fb) :=
  ⟨pe_imp (pe_ix ho ha.pe hb.pe hs) fun _ _ _ q => rd_op2 hp q⟩

/-! ### arguments, displays -/
def dNil : DA := fun st => .ok [] st
def dCons (f : DX) (g : DA) : DA := bnd f fun r => bnd g fun rs st => .ok (r :: rs) st
theorem paired_step {K : PySem.W.Frag} {E : Ent} {B F H F' H' : Hp} {st st' : DSt} {σ : L2.St} (p : Stp F H st σ F' H' st') : ∀ {rs : List R} {vs : List V}, Paired (RR K E B F H st σ) rs vs → Paired (RR K E B F' H' st' σ) rs vs
  | _, _, .nil => .nil
  | _, _, .cons h t => .cons (h.step p) (paired_step p t)
theorem paired_base {K : PySem.W.Frag} {E : Ent} {B B' F H : Hp} {st : DSt} {σ : L2.St} (l : ∀ a, B' a = none → B a = none) : ∀ {rs : List R} {vs : List V}, Paired (RR K E B' F H st σ) rs vs → Paired (RR K E B F H st σ) rs vs
  | _, _, .nil => .nil
  | _, _, .cons h t => .cons (h.base l) (paired_base l t)
theorem paired_get {α β : Type} {G : α → β → Prop} : ∀ {rs : List α} {vs : List β} {j : Nat} {r : α} {v : β}, Paired G rs vs → rs[j]? = some r → vs[j]? = some v → G r v
  | _, _, 0, _, _, .cons h t, e1, e2 => by
    simp at e1 e2
    subst e1 e2
    exact h
  | _, _, j + 1, _, _, .cons h t, e1, e2 => paired_get (j := j) t (by simpa using e1) (by simpa using e2)
  | _, _, _, _, _, .nil, e1, _ => by simp at e1
theorem tsep_cons {K : PySem.W.Frag} {E : Ent} {B F H F1 H1 : Hp} {st st1 : DSt} {σ : L2.St} {r : R} {v : V} {rs : List R} {vs : List V} (h1 : RR K E B F1 H1 st1 σ r v) (h2 : relA K E H1 F H st σ rs vs) : TSep (r :: rs) (v :: vs) := by
  cases r with
  | tmp ys =>
    obtain ⟨q, ws, e1, e2, e3, _⟩ := h1
    refine ⟨fun j zs hj hv => ?_, h2.2⟩
    obtain ⟨q', ws', e1', _, _, _, _, _, e7⟩ := paired_get h2.1 hj hv
    rw [e1] at e1'
    cases e1'
    rw [e3] at e7
    cases e7
  | val d => exact h2.2
  | «at» i => exact h2.2
theorem da_nil : DAs X W [] dNil := ⟨pa_imp pa_nil fun σ H Q ⟨E, F, st, s, q⟩ => q [] F H s (Stp.refl F H st σ) ⟨Paired.nil, trivial⟩⟩
theorem da_cons {es : List Expr} {g : DA} (ha : DE X W a fa) (hr : DAs X W es g) (hs : starEach (a :: es) X.env = (false, eval a X.env) :: starEach es X.env := by rfl) : DAs X W (a :: es) (dCons fa g) := by
  refine ⟨pa_imp (pa_cons ha.pe hr.pa hs) fun σ H Q ⟨E, F, st, s, q⟩ => ?_⟩
  refine Rd.first s q fun v F1 H1 st1 r1 s1 p1 h1 q1 => ?_
  refine Rd.next s1 p1 q1 fun vs F2 H2 st2 rs s2 p2 p h2 q2 => ?_
  exact q2 (v :: vs) F2 H2 s2 p ⟨Paired.cons (h1.step p2) (paired_base p1.live h2.1), tsep_cons h1 h2⟩
def dArgs (op : ON) (g : DA) : DX := bnd g op
theorem rd_args {K : PySem.W.Frag} {r : List V → Hp → VK → Prop} {op : ON} {g : DA} (h : PN K W r op) {σ : L2.St} {H : Hp} {Q : VK} (q : RdE K W (dArgs op g) σ H Q) : RdA K W g σ H (fun vs H1 => r vs H1 Q) := by
  obtain ⟨E, F, st, s, q⟩ := q
  exact Rd.first s q fun vs F1 H1 st1 rs s1 p1 h1 q1 => h E F H st F1 H1 st1 σ rs vs Q s1 p1 h1 q1
/-- a value laid into data: an own list is frozen -/
def frz1 (r : R) (st : DSt) : Option (D × DSt) := match r with
  | .val d => some (d, st)
  | .tmp xs => some (.lst xs, st)
  | .at i => match st[i]? with
    | some (some (.val d)) => some (d, st)
    | some (some (.own xs)) => some (.lst xs, st.set i (some (.val (.lst xs))))
    | _ => none
def frzs : List R → DSt → Option (List D × DSt)
  | [], st => some ([], st)
  | r :: rs, st => match frz1 r st with
    | some (d, st1) => (match frzs rs st1 with
      | some (ds, st2) => some (d :: ds, st2)
      | none => none)
    | none => none
end
/-- a tracked object that is no own one is frozen -/
theorem SR.freezeTmp {K : PySem.W.Frag} {E : Ent} {F H : Hp} {st : DSt} {σ : L2.St} {p : Addr} {o : HO} (s : SR K E F H st σ) (h : H p = some o) (hF : F p = none) (hn : ¬ OwnAt st σ p) (h0 : E.H0 p = none) : SR K E (upd F p o) H st σ := by
  have e1 : Same F (upd F p o) := fun a u e => by
    rw [upd_ne (ne_of_none e hF)]
    exact e
  have nOwn : ∀ {i : Nat} {xs : List D} {q : Addr}, (st[i]? = some (some (.own xs)) ∨ st[i]? = some (some (.bor xs))) → σ[i]? = some (some (.ref q)) → q ≠ p := fun {i xs q} a b z => hn ⟨i, xs, a, by rw [← z]; exact b⟩
  refine ⟨s.len, fun a u e => ?_, fun i d e => ?_, fun i xs e => ?_, fun i xs e => ?_, s.sep, fun a u e => ?_, s.fE.trans e1, s.fH, s.fB, s.slf, fun i x e => by
    obtain ⟨a, cls, d, q1, q2, q3⟩ := s.exc i x e
    exact ⟨a, cls, d, q1, q2, q3.mono e1⟩⟩
  · by_cases z : a = p
    · subst z
      rw [upd_same] at e
      cases e
      exact h
    · rw [upd_ne z] at e
      exact s.ex a u e
  · obtain ⟨v, q1, q2⟩ := s.val i d e
    exact ⟨v, q1, Rep.mono e1 d q2⟩
  · obtain ⟨q, vs, q1, q2, q3, q4, q5⟩ := s.own i xs e
    exact ⟨q, vs, q1, by rw [upd_ne (nOwn (.inl e) q1)]; exact q2, q3, RepL.mono e1 xs q4, q5⟩
  · obtain ⟨q, vs, q1, q2, q3, q4, q5⟩ := s.bor i xs e
    exact ⟨q, vs, q1, by rw [upd_ne (nOwn (.inr e) q1)]; exact q2, q3, RepL.mono e1 xs q4, q5⟩
  · rw [upd_ne (ne_of_none e h0)]
    exact s.fF a u e
theorem get_set {α : Type} {l : List α} {i j : Nat} {x y : α} (h : (l.set i x)[j]? = some y) : (j = i ∧ y = x) ∨ (j ≠ i ∧ l[j]? = some y) := by
  by_cases e : i = j
  · subst e
    by_cases hl : i < l.length
    · rw [List.getElem?_set_self hl] at h
      exact .inl ⟨rfl, (Option.some.inj h).symm⟩
    · rw [List.getElem?_eq_none (by simpa using hl)] at h
      cases h
  · rw [List.getElem?_set_ne e] at h
    exact .inr ⟨fun z => e z.symm, h⟩
section
variable {K : PySem.W.Frag} {E : Ent} {B F H : Hp} {st st' : DSt} {σ : L2.St} {r : R} {v : V} {d : D}
/-- what freezing does -/
structure Frzn (K : PySem.W.Frag) (E : Ent) (B F H : Hp) (st : DSt) (σ : L2.St) (F' : Hp) (st' : DSt) (r : R) (v : V) : Prop where
  sr : SR K E F' H st' σ
  ex : Same F F'
  chg : ∀ a, F' a ≠ F a → OwnAt st σ a ∨ ((∃ ys, r = .tmp ys) ∧ v = .ref a ∧ B a = none)
  own : ∀ p, OwnAt st' σ p → OwnAt st σ p
  dfd : ∀ (i : Nat) s, st[i]? = some (some s) → ∃ s', st'[i]? = some (some s')
theorem Frzn.refl (s : SR K E F H st σ) : Frzn K E B F H st σ F st r v := ⟨s, Same.refl F, fun _ z => absurd rfl z, fun _ h => h, fun _ u h => ⟨u, h⟩⟩
theorem frz1_ok (s : SR K E F H st σ) (h : RR K E B F H st σ r v) (e : frz1 r st = some (d, st')) :
    ∃ F', Frzn K E B F H st σ F' st' r v ∧ Rep K F' d v := by
  cases r with
  | val d' =>
    simp only [frz1, Option.some.injEq, Prod.mk.injEq] at e
    obtain ⟨rfl, rfl⟩ := e
    exact ⟨F, Frzn.refl s, h⟩
  | tmp xs =>
    simp only [frz1, Option.some.injEq, Prod.mk.injEq] at e
    obtain ⟨rfl, rfl⟩ := e
    obtain ⟨q, vs, e1, e2, e3, e4, e5, e6, e7⟩ := h
    have ex : Same F (upd F q (.lst vs)) := fun a u z => by
      rw [upd_ne (ne_of_none z e2)]
      exact z
    refine ⟨upd F q (.lst vs), ⟨s.freezeTmp e3 e2 e5 e6, ex, fun a n => ?_, fun _ z => z, fun _ u z => ⟨u, z⟩⟩, ?_⟩
    · have ea : a = q := by
        by_cases z : a = q
        · exact z
        · exact absurd (upd_ne z) n
      rw [ea]
      exact .inr ⟨⟨xs, rfl⟩, e1, e7⟩
    · simp only [Rep]
      exact ⟨q, vs, e1, upd_same, RepL.mono ex xs e4⟩
  | «at» i =>
    obtain ⟨h1, _⟩ := h
    simp only [frz1] at e
    split at e
    · rename_i d' ei
      cases e
      obtain ⟨w, q1, q2⟩ := s.val i _ ei
      rw [h1] at q1
      cases q1
      exact ⟨F, Frzn.refl s, q2⟩
    · rename_i xs ei
      cases e
      obtain ⟨p, vs, q1, q2, q3, q4, q5⟩ := s.own i xs ei
      rw [h1] at q1
      cases q1
      have ex : Same F (upd F p (.lst vs)) := fun a u z => by
        rw [upd_ne (ne_of_none z q2)]
        exact z
      have il : i < st.length := (List.getElem?_eq_some_iff.mp ei).1
      have ownS : ∀ {j : Nat} {ys : List D}, ((st.set i (some (.val (.lst xs))))[j]? = some (some (.own ys)) ∨ (st.set i (some (.val (.lst xs))))[j]? = some (some (.bor ys))) → j ≠ i ∧ (st[j]? = some (some (.own ys)) ∨ st[j]? = some (some (.bor ys))) := fun {j ys} z => by
        rcases z with z | z
        · rcases get_set z with ⟨_, y⟩ | ⟨n, y⟩
          · cases y
          · exact ⟨n, .inl y⟩
        · rcases get_set z with ⟨_, y⟩ | ⟨n, y⟩
          · cases y
          · exact ⟨n, .inr y⟩
      have apart : ∀ {j : Nat} {ys : List D} {q : Addr}, j ≠ i → (st[j]? = some (some (.own ys)) ∨ st[j]? = some (some (.bor ys))) → σ[j]? = some (some (.ref q)) → q ≠ p := fun {j ys q} n a b z => n (s.sep j i ys xs p a (.inl ei) (by rw [← z]; exact b) h1)
      refine ⟨upd F p (.lst vs), ⟨⟨by rw [List.length_set]; exact s.len, fun a u z => ?_, fun j d' z => ?_, fun j ys z => ?_, fun j ys z => ?_, fun j k ys zs q a b c f => ?_, fun a u z => ?_, s.fE.trans ex, s.fH, s.fB, fun j c ns ds z => s.slf j c ns ds (by rcases get_set z with ⟨_, w⟩ | ⟨_, w⟩; cases w; exact w), fun j x z => by
        obtain ⟨a, cls, d, q1, q2, q3⟩ := s.exc j x (by rcases get_set z with ⟨_, w⟩ | ⟨_, w⟩; cases w; exact w)
        exact ⟨a, cls, d, q1, q2, q3.mono ex⟩⟩, ex, fun a n => ?_, fun q ⟨j, ys, a, b⟩ => ?_, fun j u z => ?_⟩, ?_⟩
      · by_cases y : a = p
        · subst y
          rw [upd_same] at z
          cases z
          exact q3
        · rw [upd_ne y] at z
          exact s.ex a u z
      · rcases get_set z with ⟨y1, y2⟩ | ⟨n, y⟩
        · cases y2
          rw [y1]
          refine ⟨_, h1, ?_⟩
          simp only [Rep]
          exact ⟨p, vs, rfl, upd_same, RepL.mono ex xs q4⟩
        · obtain ⟨w, k1, k2⟩ := s.val j d' y
          exact ⟨w, k1, Rep.mono ex d' k2⟩
      · obtain ⟨n, y⟩ := ownS (.inl z)
        have y' : st[j]? = some (some (.own ys)) := by
          rcases get_set z with ⟨_, w⟩ | ⟨_, w⟩
          · cases w
          · exact w
        obtain ⟨q, ws, k1, k2, k3, k4, k5⟩ := s.own j ys y'
        exact ⟨q, ws, k1, by rw [upd_ne (apart n (.inl y') k1)]; exact k2, k3, RepL.mono ex ys k4, k5⟩
      · have y' : st[j]? = some (some (.bor ys)) := by
          rcases get_set z with ⟨_, w⟩ | ⟨_, w⟩
          · cases w
          · exact w
        have n : j ≠ i := (ownS (.inr z)).1
        obtain ⟨q, ws, k1, k2, k3, k4, k5⟩ := s.bor j ys y'
        exact ⟨q, ws, k1, by rw [upd_ne (apart n (.inr y') k1)]; exact k2, k3, RepL.mono ex ys k4, k5⟩
      · exact s.sep j k ys zs q (ownS a).2 (ownS b).2 c f
      · rw [upd_ne (ne_of_none z q5)]
        exact s.fF a u z
      · have ea : a = p := by
          by_cases z : a = p
          · exact z
          · exact absurd (upd_ne z) n
        rw [ea]
        exact .inl ⟨i, xs, .inl ei, h1⟩
      · exact ⟨j, ys, (ownS a).2, b⟩
      · by_cases y : j = i
        · subst y
          exact ⟨_, List.getElem?_set_self il⟩
        · exact ⟨u, by rw [List.getElem?_set_ne (fun w => y w.symm)]; exact z⟩
      · simp only [Rep]
        exact ⟨p, vs, rfl, upd_same, RepL.mono ex xs q4⟩
    · cases e
theorem Frzn.stp {Fb Hb : Hp} {stb : DSt} {F' : Hp} (f : Frzn K E Hb F H st σ F' st' r v) (p : Stp Fb Hb stb σ F H st) : Stp Fb Hb stb σ F' H st' := by
  refine ⟨p.ex.trans f.ex, fun a o h n => ?_, fun q z => p.own q (f.own q z), fun i u z => ?_, p.live⟩
  · obtain ⟨k1, k2⟩ := p.keep a o h n
    refine ⟨k1, ?_⟩
    by_cases e : F' a = F a
    · rw [e]
      exact k2
    · exfalso
      rcases f.chg a e with z | ⟨_, _, z⟩
      · exact n (p.own a z)
      · rw [h] at z
        cases z
  · obtain ⟨s1, h1⟩ := p.dfd i u z
    exact f.dfd i s1 h1
theorem Frzn.rr {F' : Hp} {r2 : R} {w : V} (f : Frzn K E B F H st σ F' st' r v) (h : RR K E B F H st σ r2 w) (n : (∃ ys, r = .tmp ys) → (∃ ys, r2 = .tmp ys) → w ≠ v) : RR K E B F' H st' σ r2 w := by
  cases r2 with
  | val d => exact Rep.mono f.ex d h
  | «at» i =>
    obtain ⟨h1, u, h2⟩ := h
    exact ⟨h1, f.dfd i u h2⟩
  | tmp ys =>
    obtain ⟨q, vs, e1, e2, e3, e4, e5, e6, e7⟩ := h
    refine ⟨q, vs, e1, ?_, e3, RepL.mono f.ex ys e4, fun z => e5 (f.own q z), e6, e7⟩
    by_cases e : F' q = F q
    · rw [e]
      exact e2
    · rcases f.chg q e with z | ⟨z1, z2, _⟩
      · exact absurd z e5
      · exact absurd (e1.trans z2.symm) (n z1 ⟨ys, rfl⟩)
theorem tsep_tail {r : R} {rs : List R} {v : V} {vs : List V} (h : TSep (r :: rs) (v :: vs)) : TSep rs vs ∧ ((∃ ys, r = .tmp ys) → ∀ (j : Nat) ys, rs[j]? = some (.tmp ys) → vs[j]? ≠ some v) := by
  cases r with
  | tmp ys => exact ⟨h.2, fun _ => h.1⟩
  | val d => exact ⟨h, fun ⟨_, z⟩ => nomatch z⟩
  | «at» i => exact ⟨h, fun ⟨_, z⟩ => nomatch z⟩
theorem paired_frz {F' : Hp} (f : Frzn K E B F H st σ F' st' r v) : ∀ {rs : List R} {vs : List V}, Paired (RR K E B F H st σ) rs vs → ((∃ ys, r = .tmp ys) → ∀ (j : Nat) ys, rs[j]? = some (.tmp ys) → vs[j]? ≠ some v) → Paired (RR K E B F' H st' σ) rs vs
  | _, _, .nil, _ => .nil
  | r2 :: rs, w :: ws, .cons h t, n => .cons (f.rr h fun a ⟨ys, e⟩ z => n a 0 ys (by rw [e]; rfl) (by rw [z]; rfl)) (paired_frz f t fun a j ys b => by
      have := n a (j + 1) ys (by simpa using b)
      simpa using this)
theorem frzs_ok {Fb Hb : Hp} {stb : DSt} : ∀ {rs : List R} {vs : List V} {ds : List D} {F : Hp} {st st' : DSt}, SR K E F H st σ → Stp Fb Hb stb σ F H st → relA K E Hb F H st σ rs vs → frzs rs st = some (ds, st') →
    ∃ F', SR K E F' H st' σ ∧ Stp Fb Hb stb σ F' H st' ∧ RepL K F' ds vs ∧ Same F F'
  | [], vs, ds, F, st, st', s, p, ⟨h, _⟩, e => by
    cases h
    simp only [frzs, Option.some.injEq, Prod.mk.injEq] at e
    obtain ⟨rfl, rfl⟩ := e
    exact ⟨F, s, p, RepL.nil, Same.refl F⟩
  | r :: rs, vs, ds, F, st, st', s, p, ⟨h, sp⟩, e => by
    cases h with
    | @cons _ v _ ws h t =>
      simp only [frzs] at e
      cases e1 : frz1 r st with
      | none =>
        rw [e1] at e
        cases e
      | some q =>
        obtain ⟨d, st1⟩ := q
        rw [e1] at e
        simp only at e
        cases e2 : frzs rs st1 with
        | none =>
          rw [e2] at e
          cases e
        | some q2 =>
          obtain ⟨ds2, st2⟩ := q2
          rw [e2] at e
          simp only [Option.some.injEq, Prod.mk.injEq] at e
          obtain ⟨rfl, rfl⟩ := e
          obtain ⟨F1, f1, r1⟩ := frz1_ok s h e1
          obtain ⟨sp1, sp2⟩ := tsep_tail sp
          obtain ⟨F2, s2, p2, r2, x2⟩ := frzs_ok f1.sr (f1.stp p) ⟨paired_frz f1 t sp2, sp1⟩ e2
          exact ⟨F2, s2, p2, RepL.cons (Rep.mono x2 d r1) r2, f1.ex.trans x2⟩
end
end Dl

namespace Dl
open PySem L2
variable [ExI]
def lim : Nat := 100000
theorem lim_le {n : Nat} (h : n ≤ lim) : n ≤ sizeLine := Nat.le_trans h (by decide)
theorem lim_lt {n : Nat} (h : n < lim) : n < sizeLine := Nat.lt_of_lt_of_le h (by decide)

section
variable {K : PySem.W.Frag} {W : WX} {E : Ent} {Fb Hb F H : Hp} {stb st : DSt} {σ : L2.St} {Q : VK}
theorem Cont.newT {q : Addr} {ds : List D} {vs : List V} (h : Cont K W (RR K) E Fb Hb stb σ (.ok (.val (.tup ds)) st) Q) (s : SR K E F H st σ) (p : Stp Fb Hb stb σ F H st) (r : RepL K F ds vs) (hq : H q = none) : Q (.ref q) (upd H q (.tup vs)) := by
  refine h (.ref q) (upd F q (.tup vs)) (upd H q (.tup vs)) (s.growF hq) (p.trans (s.stpGrowF hq)) ?_
  show Rep K _ (.tup ds) (.ref q)
  simp only [Rep]
  exact ⟨q, vs, rfl, SqT.of upd_same, RepL.mono (s.stpGrowF hq).ex ds r⟩
theorem Cont.newL {q : Addr} {ds : List D} {vs : List V} (h : Cont K W (RR K) E Fb Hb stb σ (.ok (.tmp ds) st) Q) (s : SR K E F H st σ) (p : Stp Fb Hb stb σ F H st) (r : RepL K F ds vs) (hq : H q = none) : Q (.ref q) (upd H q (.lst vs)) :=
  h (.ref q) F (upd H q (.lst vs)) (s.grow hq) (p.trans (s.stpGrow hq)) ⟨q, vs, rfl, free_F s.ex hq, upd_same, r, s.notOwn hq, s.fresh0 hq, p.live q hq⟩
end

/-! ### operations by what is looked at -/
def by1 (op : D → Option R) : O1 := fun r1 st => match look st r1 with
  | some d1 => (match op d1 with
    | some r => .ok r st
    | none => .bad)
  | none => .bad
def by2 (op : D → D → Option R) : O2 := fun r1 r2 st => match look st r1, look st r2 with
  | some d1, some d2 => (match op d1 d2 with
    | some r => .ok r st
    | none => .bad)
  | _, _ => .bad
theorem p1_by {K : PySem.W.Frag} {W : WX} {r : V → Hp → VK → Prop} {op : D → Option R}
    (h : ∀ E Fb Hb stb F H st σ r1 v Q d1 res, SR K E F H st σ → Stp Fb Hb stb σ F H st → RR K E Hb F H st σ r1 v → look st r1 = some d1 → op d1 = some res → Cont K W (RR K) E Fb Hb stb σ (.ok res st) Q → r v H Q) :
    P1 K W r (by1 op) := by
  intro E Fb Hb stb F H st σ r1 v Q s p h1 c
  unfold by1 at c
  split at c
  · rename_i d1 e1
    split at c
    · rename_i res e3
      exact h E Fb Hb stb F H st σ r1 v Q d1 res s p h1 e1 e3 c
    · exact c.elim
  · exact c.elim
theorem p2_by {K : PySem.W.Frag} {W : WX} {r : R2} {op : D → D → Option R}
    (h : ∀ E Fb Hb stb F H st σ r1 r2 v w Q d1 d2 res, SR K E F H st σ → Stp Fb Hb stb σ F H st → RR K E Hb F H st σ r1 v → RR K E Hb F H st σ r2 w → look st r1 = some d1 → look st r2 = some d2 → op d1 d2 = some res → Cont K W (RR K) E Fb Hb stb σ (.ok res st) Q → r v w H Q) :
    P2 K W r (by2 op) := by
  intro E Fb Hb stb F H st σ r1 r2 v w Q s p h1 h2 c
  unfold by2 at c
  split at c
  · rename_i d1 d2 e1 e2
    split at c
    · rename_i res e3
      exact h E Fb Hb stb F H st σ r1 r2 v w Q d1 d2 res s p h1 h2 e1 e2 e3 c
    · exact c.elim
  · exact c.elim

def addD : D → D → Option R
  | .int i, .int j => some (.val (.int (i + j)))
  | .str a, .str b => if a.length + b.length ≤ lim then some (.val (.str (a ++ b))) else none
  | .tup xs, .tup ys => if xs.length + ys.length ≤ lim then some (.val (.tup (xs ++ ys))) else none
  | .lst xs, .lst ys => if xs.length + ys.length ≤ lim then some (.tmp (xs ++ ys)) else none
  | _, _ => none
def rAddA (K : PySem.W.Frag) : R2 := fun x y H Q => rI0 (fun i j => .int (i + j)) x y H Q ∨ ((∃ i j, x = .str i ∧ y = .str j ∧ i.length + j.length ≤ sizeLine ∧ Q (.str (i ++ j)) H) ∨ (rCatA K x y H Q ∨ rCat x y H Q))
section
variable {X : Cx} {W : WX}
theorem op_addA : OpR X (binaryOp .Add) (rAddA X.K) := op_add.or (op_add_str.or (op_catA.or op_cat))
theorem p_add {K : PySem.W.Frag} : P2 K W (rAddA K) (by2 addD) := p2_by fun E Fb Hb stb F H st σ r1 r2 v w Q d1 d2 res s p h1 h2 e1 e2 e c => by
  unfold addD at e
  split at e
  · cases e
    rw [look_int s h1 e1, look_int s h2 e2]
    exact .inl ⟨_, _, rfl, rfl, c _ F H s p (by simp only [RR, Rep])⟩
  · split at e
    · rename_i hz
      cases e
      rw [look_str s h1 e1, look_str s h2 e2]
      exact .inr (.inl ⟨_, _, rfl, rfl, lim_le hz, c _ F H s p (by simp only [RR, Rep])⟩)
    · cases e
  · split at e
    · rename_i xs ys hz
      cases e
      obtain ⟨a, vs, rfl, ha, ra⟩ := look_tup s h1 e1
      obtain ⟨b, ws, rfl, hb, rb⟩ := look_tup s h2 e2
      refine .inr (.inr (.inl ⟨a, b, vs, ws, rfl, rfl, sqT_mono s.ex ha, sqT_mono s.ex hb, ?_, fun z => ?_, fun z1 z2 => ?_, fun z1 z2 q hq => ?_⟩))
      · rw [← ra.length, ← rb.length]
        exact lim_le hz
      · subst z
        have : xs = [] := List.eq_nil_of_length_eq_zero (by rw [ra.length]; rfl)
        subst this
        exact c _ F H s p (by simp only [RR, Rep, List.nil_append]; exact ⟨b, ws, rfl, hb, rb⟩)
      · subst z2
        have : ys = [] := List.eq_nil_of_length_eq_zero (by rw [rb.length]; rfl)
        subst this
        exact c _ F H s p (by simp only [RR, Rep, List.append_nil]; exact ⟨a, vs, rfl, ha, ra⟩)
      · exact c.newT s p (ra.append rb) hq
    · cases e
  · split at e
    · rename_i xs ys hz
      cases e
      obtain ⟨a, vs, rfl, ha, ra⟩ := look_list s h1 e1
      obtain ⟨b, ws, rfl, hb, rb⟩ := look_list s h2 e2
      refine .inr (.inr (.inr ⟨a, b, vs, ws, rfl, rfl, ha, hb, ?_, fun q hq => c.newL s p (ra.append rb) hq⟩))
      rw [← ra.length, ← rb.length]
      exact lim_le hz
    · cases e
  · cases e
theorem de_add {a b : Expr} {fa fb : DX} {pos : Pos} (ha : DE X W a fa) (hb : DE X W b fb) : DE X W (.BinOp a .Add b pos) (dOp2 (by2 addD) fa fb) := de_op op_addA p_add ha hb

/-- ints alone -/
def int2 (C : Int → Int → Bool) (g : Int → Int → D) : D → D → Option R
  | .int i, .int j => if C i j then some (.val (g i j)) else none
  | _, _ => none
theorem p_int2 {K : PySem.W.Frag} {C : Int → Int → Bool} {C' : Int → Int → Prop} {g : Int → Int → D} {g' : Int → Int → V} (hC : ∀ i j, C i j = true → C' i j) (hg : ∀ i j F, Rep K F (g i j) (g' i j)) : P2 K W (rI C' g') (by2 (int2 C g)) :=
  p2_by fun E Fb Hb stb F H st σ r1 r2 v w Q d1 d2 res s p h1 h2 e1 e2 e c => by
    unfold int2 at e
    split at e
    · split at e
      · rename_i i j hc
        cases e
        rw [look_int s h1 e1, look_int s h2 e2]
        exact ⟨_, _, rfl, rfl, hC _ _ hc, c _ F H s p (hg _ _ F)⟩
      · cases e
    · cases e
theorem rI_0 {g : Int → Int → V} : rI0 g = fun x y H Q => rI (fun _ _ => True) g x y H Q := by
  funext x y H Q
  simp [rI, rI0]
theorem p_int0 {K : PySem.W.Frag} {g : Int → Int → D} {g' : Int → Int → V} (hg : ∀ i j F, Rep K F (g i j) (g' i j)) : P2 K W (rI0 g') (by2 (int2 (fun _ _ => true) g)) := by
  rw [rI_0]
  exact p_int2 (fun _ _ _ => trivial) hg
variable {a b : Expr} {fa fb : DX} {pos : Pos}
def dSub := dOp2 (by2 (int2 (fun _ _ => true) fun i j => .int (i - j)))
theorem de_sub (ha : DE X W a fa) (hb : DE X W b fb) : DE X W (.BinOp a .Sub b pos) (dSub fa fb) := de_op op_sub (p_int0 fun i j F => by simp only [Rep]) ha hb
def cMul (i j : Int) : Bool := decide (i.natAbs.log2 + j.natAbs.log2 < 1000000)
def dMul := dOp2 (by2 (int2 cMul fun i j => .int (i * j)))
theorem de_mul (ha : DE X W a fa) (hb : DE X W b fb) : DE X W (.BinOp a .Mult b pos) (dMul fa fb) := de_op op_mulW (p_int2 (fun i j h => (by simpa [cMul, CMulW] using h)) fun i j F => by simp only [Rep]) ha hb
def cDiv (_ j : Int) : Bool := decide (0 < j) && decide (j.natAbs.log2 < 9000)
def dFDiv := dOp2 (by2 (int2 cDiv fun i j => .int (i / j)))
theorem de_fdiv (ha : DE X W a fa) (hb : DE X W b fb) : DE X W (.BinOp a .FloorDiv b pos) (dFDiv fa fb) :=
  de_op op_fdivW (p_int2 (fun i j h => by simpa [cDiv, CDivW] using h) fun i j F => by simp only [Rep]) ha hb
def cPos (_ j : Int) : Bool := decide (0 < j)
def dMod := dOp2 (by2 (int2 cPos fun i j => .int (i % j)))
theorem de_mod (ha : DE X W a fa) (hb : DE X W b fb) : DE X W (.BinOp a .Mod b pos) (dMod fa fb) := de_op op_mod (p_int2 (fun i j h => of_decide_eq_true h) fun i j F => by simp only [Rep]) ha hb
def cPow (i j : Int) : Bool := decide (0 ≤ j) && (decide (j ≤ 1000000) && decide (i.natAbs < 2 ^ 64))
def dPow := dOp2 (by2 (int2 cPow fun i j => .int (i ^ j.toNat)))
theorem de_pow (ha : DE X W a fa) (hb : DE X W b fb) : DE X W (.BinOp a .Pow b pos) (dPow fa fb) :=
  de_op op_pow (p_int2 (fun i j h => by simpa [cPow, CPow] using h) fun i j F => by simp only [Rep]) ha hb
def negD : D → Option R
  | .int i => some (.val (.int (-i)))
  | _ => none
def dNeg := dOp1 (by1 negD)
theorem de_neg (ha : DE X W a fa) : DE X W (.UnaryOp .USub a pos) (dNeg fa) := de_un un_neg (p1_by fun E Fb Hb stb F H st σ r1 v Q d1 res s p h1 e1 e c => by
  unfold negD at e
  split at e
  · cases e
    rw [look_int s h1 e1]
    exact ⟨_, rfl, c _ F H s p (by simp only [RR, Rep])⟩
  · cases e) ha
/-! comparisons of ints -/
def dLt := dOp2 (by2 (int2 (fun _ _ => true) fun i j => .bl (decide (i < j))))
def dLe := dOp2 (by2 (int2 (fun _ _ => true) fun i j => .bl (decide (i ≤ j))))
def dGt := dOp2 (by2 (int2 (fun _ _ => true) fun i j => .bl (decide (j < i))))
def dGe := dOp2 (by2 (int2 (fun _ _ => true) fun i j => .bl (decide (j ≤ i))))
theorem de_lt (ha : DE X W a fa) (hb : DE X W b fb) : DE X W (.Compare a [.Lt] [b] pos) (dLt fa fb) := de_cmp op_lt (p_int0 fun i j F => by simp only [Rep]) ha hb (nomark _)
theorem de_le (ha : DE X W a fa) (hb : DE X W b fb) : DE X W (.Compare a [.LtE] [b] pos) (dLe fa fb) := de_cmp op_le (p_int0 fun i j F => by simp only [Rep]) ha hb (nomark _)
theorem de_gt (ha : DE X W a fa) (hb : DE X W b fb) : DE X W (.Compare a [.Gt] [b] pos) (dGt fa fb) := de_cmp op_gt (p_int0 fun i j F => by simp only [Rep]) ha hb (nomark _)
theorem de_ge (ha : DE X W a fa) (hb : DE X W b fb) : DE X W (.Compare a [.GtE] [b] pos) (dGe fa fb) := de_cmp op_ge (p_int0 fun i j F => by simp only [Rep]) ha hb (nomark _)
end

/-! ### equality of data -/
mutual
def toPy : D → Option PyData
  | .non => some .none
  | .bl b => some (.bool b)
  | .int i => some (.int i)
  | .str s => some (.str s)
  | .tup xs => (toPys xs).map .tuple
  | .lst xs => (toPys xs).map .list
  | _ => none
def toPys : List D → Option (List PyData)
  | [] => some []
  | x :: xs => match toPy x, toPys xs with
    | some p, some ps => some (p :: ps)
    | _, _ => none
end
section
variable {K : PySem.W.Frag} {H : Hp}
mutual
theorem toPy_dp : ∀ (d : D) {v : V} {p : PyData}, Rep K H d v → toPy d = some p → Dp K H v p
  | .non, v, p, h, e => by
    simp only [Rep] at h
    simp only [toPy, Option.some.injEq] at e
    subst h e
    exact .non
  | .bl b, v, p, h, e => by
    simp only [Rep] at h
    simp only [toPy, Option.some.injEq] at e
    subst h e
    exact .bl b
  | .int i, v, p, h, e => by
    simp only [Rep] at h
    simp only [toPy, Option.some.injEq] at e
    subst h e
    exact .int i
  | .str x, v, p, h, e => by
    simp only [Rep] at h
    simp only [toPy, Option.some.injEq] at e
    subst h e
    exact .str x
  | .tup xs, v, p, h, e => by
    simp only [Rep] at h
    obtain ⟨a, vs, rfl, h1, h2⟩ := h
    simp only [toPy, Option.map_eq_some_iff] at e
    obtain ⟨ps, e1, rfl⟩ := e
    exact .tup h1 (toPys_dp xs h2 e1)
  | .lst xs, v, p, h, e => by
    simp only [Rep] at h
    obtain ⟨a, vs, rfl, h1, h2⟩ := h
    simp only [toPy, Option.map_eq_some_iff] at e
    obtain ⟨ps, e1, rfl⟩ := e
    exact .lst (SqL.of h1) (toPys_dp xs h2 e1)
  | .scr xs, v, p, h, e => by simp [toPy] at e
  | .obj c ns ds, v, p, h, e => by simp [toPy] at e
  | .dic ks ds, v, p, h, e => by simp [toPy] at e
  | .ty n, v, p, h, e => by simp [toPy] at e
  | .gl n, v, p, h, e => by simp [toPy] at e
theorem toPys_dp : ∀ (xs : List D) {vs : List V} {ps : List PyData}, RepL K H xs vs → toPys xs = some ps → DpAll K H vs ps
  | [], vs, ps, h, e => by
    rw [repL_nil.mp h]
    simp only [toPys, Option.some.injEq] at e
    subst e
    exact .nil
  | x :: xs, vs, ps, h, e => by
    obtain ⟨v, ws, rfl, h1, h2⟩ := repL_cons.mp h
    simp only [toPys] at e
    split at e
    · rename_i p ps' e1 e2
      cases e
      exact .cons (toPy_dp x h1 e1) (toPys_dp xs h2 e2)
    · cases e
end
end
def eqD (neg : Bool) : D → D → Option R := fun d e => match toPy d, toPy e with
  | some p, some q => if SeqAt.shaped p && SeqAt.shaped q then some (.val (.bl (if neg then !PyData.eqv p q else PyData.eqv p q))) else none
  | _, _ => none
section
variable {X : Cx} {W : WX} {a b : Expr} {fa fb : DX} {pos : Pos}
theorem p_eq {K : PySem.W.Frag} : P2 K W (rEqD K) (by2 (eqD false)) := p2_by fun E Fb Hb stb F H st σ r1 r2 v w Q d1 d2 res s p h1 h2 e1 e2 e c => by
  unfold eqD at e
  split at e
  · rename_i q1 q2 k1 k2
    split at e
    · rename_i hs
      cases e
      obtain ⟨hs1, hs2⟩ := Bool.and_eq_true_iff.mp hs
      exact ⟨q1, q2, toPy_dp _ (look_rep s h1 e1) k1, toPy_dp _ (look_rep s h2 e2) k2, hs1, hs2, c _ F H s p (by simp only [RR, Rep]; simp)⟩
    · cases e
  · cases e
theorem p_ne {K : PySem.W.Frag} : P2 K W (rNeD K) (by2 (eqD true)) := p2_by fun E Fb Hb stb F H st σ r1 r2 v w Q d1 d2 res s p h1 h2 e1 e2 e c => by
  unfold eqD at e
  split at e
  · rename_i q1 q2 k1 k2
    split at e
    · rename_i hs
      cases e
      obtain ⟨hs1, hs2⟩ := Bool.and_eq_true_iff.mp hs
      exact ⟨q1, q2, toPy_dp _ (look_rep s h1 e1) k1, toPy_dp _ (look_rep s h2 e2) k2, hs1, hs2, c _ F H s p (by simp only [RR, Rep]; simp)⟩
    · cases e
  · cases e
def dEq := dOp2 (by2 (eqD false))
def dNe := dOp2 (by2 (eqD true))
theorem de_eq (hu : X.A.units + 64 < cLine) (ha : DE X W a fa) (hb : DE X W b fb) : DE X W (.Compare a [.Eq] [b] pos) (dEq fa fb) := de_cmp (op_eqD hu) p_eq ha hb (nomark _)
theorem de_ne (hu : X.A.units + 64 < cLine) (ha : DE X W a fa) (hb : DE X W b fb) : DE X W (.Compare a [.NotEq] [b] pos) (dNe fa fb) := de_cmp (op_neD hu) p_ne ha hb (nomark _)

/-! ### is -/
def isD (neg : Bool) : D → D → Option R
  | .bl x, .bl y => some (.val (.bl (if neg then !decide (x = y) else decide (x = y))))
  | .non, .non => some (.val (.bl (if neg then false else true)))
  | _, .non => some (.val (.bl neg))
  | _, _ => none
theorem rep_non {K : PySem.W.Frag} {F : Hp} {d : D} {v : V} (h : Rep K F d v) : v = .non → d = .non := fun e => by
  subst e
  cases d with
  | non => rfl
  | obj c ns ds =>
    simp only [Rep] at h
    obtain ⟨_, _, _, h, _⟩ := h
    cases h
  | _ => simp only [Rep] at h <;> first | (cases h; done) | (obtain ⟨_, _, h, _⟩ := h; cases h)
def rIsA : R2 := fun x y H Q => rIsB x y H Q ∨ (y = .non ∧ Q (.bl (decide (x = .non))) H)
def rIsNotA : R2 := fun x y H Q => rNotB x y H Q ∨ (y = .non ∧ Q (.bl (!decide (x = .non))) H)
theorem p_is {K : PySem.W.Frag} : P2 K W rIsA (by2 (isD false)) := p2_by fun E Fb Hb stb F H st σ r1 r2 v w Q d1 d2 res s p h1 h2 e1 e2 e c => by
  unfold isD at e
  split at e
  · cases e
    rw [look_bl s h1 e1, look_bl s h2 e2]
    exact .inl ⟨_, _, rfl, rfl, c _ F H s p (by simp only [RR, Rep]; simp)⟩
  · cases e
    rw [look_non s h1 e1, look_non s h2 e2]
    exact .inr ⟨rfl, c _ F H s p (by simp only [RR, Rep]; simp)⟩
  · rename_i hn
    cases e
    rw [look_non s h2 e2]
    have hv : ¬ v = .non := fun z => hn (rep_non (look_rep s h1 e1) z)
    refine .inr ⟨rfl, c _ F H s p (by simp only [RR, Rep]; simp [hv])⟩
  · cases e
theorem p_isnot {K : PySem.W.Frag} : P2 K W rIsNotA (by2 (isD true)) := p2_by fun E Fb Hb stb F H st σ r1 r2 v w Q d1 d2 res s p h1 h2 e1 e2 e c => by
  unfold isD at e
  split at e
  · cases e
    rw [look_bl s h1 e1, look_bl s h2 e2]
    exact .inl ⟨_, _, rfl, rfl, c _ F H s p (by simp only [RR, Rep]; simp)⟩
  · cases e
    rw [look_non s h1 e1, look_non s h2 e2]
    exact .inr ⟨rfl, c _ F H s p (by simp only [RR, Rep]; simp)⟩
  · rename_i hn
    cases e
    rw [look_non s h2 e2]
    have hv : ¬ v = .non := fun z => hn (rep_non (look_rep s h1 e1) z)
    refine .inr ⟨rfl, c _ F H s p (by simp only [RR, Rep]; simp [hv])⟩
  · cases e
def dIs := dOp2 (by2 (isD false))
def dIsNot := dOp2 (by2 (isD true))
theorem de_is (ha : DE X W a fa) (hb : DE X W b fb) : DE X W (.Compare a [.Is] [b] pos) (dIs fa fb) := de_cmp (op_isBl.or op_isN) p_is ha hb (nomark _)
theorem de_isnot (ha : DE X W a fa) (hb : DE X W b fb) : DE X W (.Compare a [.IsNot] [b] pos) (dIsNot fa fb) := de_cmp (op_notBl.or op_notN) p_isnot ha hb (nomark _)

/-! ### items -/
def ixD : D → D → Option R
  | .lst xs, .int i => (atI xs i).map .val
  | .tup xs, .int i => (atI xs i).map .val
  | .str z, .int i => if z.length ≤ lim then (atI z.cps.toList i).map fun c => .val (.str ⟨#[c]⟩) else none
  | _, _ => none
theorem atI_rep {K : PySem.W.Frag} {F : Hp} {xs : List D} {vs : List V} {i : Int} {d : D} (r : RepL K F xs vs) (h : atI xs i = some d) : ∃ v, atI vs i = some v ∧ Rep K F d v := by
  unfold atI at h ⊢
  rw [← r.length]
  cases e : ixN xs.length i with
  | none =>
    rw [e] at h
    cases h
  | some j =>
    rw [e] at h
    exact r.get (i := j) h
theorem p_ix {K : PySem.W.Frag} : P2 K W (rIx K) (by2 ixD) := p2_by fun E Fb Hb stb F H st σ r1 r2 v w Q d1 d2 res s p h1 h2 e1 e2 e c => by
  unfold ixD at e
  split at e
  · obtain ⟨d, k, rfl⟩ := Option.map_eq_some_iff.mp e
    obtain ⟨a, vs, rfl, ha, ra⟩ := look_list s h1 e1
    obtain ⟨u, hu, ru⟩ := atI_rep ra k
    rw [look_int s h2 e2]
    exact .inl ⟨a, vs, _, u, rfl, rfl, SqL.of ha, hu, c _ F H s p ru⟩
  · obtain ⟨d, k, rfl⟩ := Option.map_eq_some_iff.mp e
    obtain ⟨a, vs, rfl, ha, ra⟩ := look_tup s h1 e1
    obtain ⟨u, hu, ru⟩ := atI_rep ra k
    rw [look_int s h2 e2]
    exact .inr (.inl ⟨a, vs, _, u, rfl, rfl, sqT_mono s.ex ha, hu, c _ F H s p ru⟩)
  · split at e
    · rename_i hz
      obtain ⟨d, k, rfl⟩ := Option.map_eq_some_iff.mp e
      rw [look_str s h1 e1, look_int s h2 e2]
      exact .inr (.inr ⟨_, _, d, rfl, rfl, lim_le hz, k, c _ F H s p (by simp only [RR, Rep])⟩)
    · cases e
  · cases e
def dIx := dOp2 (by2 ixD)
theorem de_item (ha : DE X W a fa) (hb : DE X W b fb) (hs : PlainIx b) : DE X W (.Subscript a b pos) (dIx fa fb) := de_ix ix_seq p_ix ha hb hs
end
end Dl

namespace Dl
open PySem L2 PySem.Spec PyProof.Rows
variable [ExI]
/-! ### in -/
section
variable {X : Cx} {W : WX} {a b : Expr} {fa fb : DX} {pos : Pos}
def rInDT (K : PySem.W.Frag) (neg : Bool) : R2 := fun x y H Q => ∃ d ds, Dp K H x d ∧ (Dp K H y (.list ds) ∨ Dp K H y (.tuple ds)) ∧ SeqAt.shaped d = true ∧ SeqAt.shaped (.list ds) = true ∧ Q (.bl (if neg then !ds.any (fun z => PyData.eqv z d) else ds.any fun z => PyData.eqv z d)) H
theorem op_inDT (hu : X.A.units + 65 < cLine) : OpR X (compareOp .In) (rInDT X.K false) := by
  intro pins s σ H x y v u Q I rx ry h
  obtain ⟨d, ds, hd, he, sd, se, q⟩ := h
  obtain ⟨as, r1⟩ := Dp.reads I d x v hd rx
  rcases he with he | he
  · obtain ⟨bs, r2⟩ := Dp.reads I (.list ds) y u he ry
    exact SeqAt.in_list_reads r2 r1 (SeqAt.canLay_of_shaped se) (SeqAt.canLay_of_shaped sd) (room_in_shaped sd hu) ⟨.bl _, H, I, rfl, q⟩
  · obtain ⟨bs, r2⟩ := Dp.reads I (.tuple ds) y u he ry
    exact SeqAt.in_tuple_reads r2 r1 (SeqAt.canLay_of_shaped se) (SeqAt.canLay_of_shaped sd) (room_in_shaped sd hu) ⟨.bl _, H, I, rfl, q⟩
theorem op_notInDT (hu : X.A.units + 65 < cLine) : OpR X (compareOp .NotIn) (rInDT X.K true) := by
  intro pins s σ H x y v u Q I rx ry h
  obtain ⟨d, ds, hd, he, sd, se, q⟩ := h
  obtain ⟨as, r1⟩ := Dp.reads I d x v hd rx
  rcases he with he | he
  · obtain ⟨bs, r2⟩ := Dp.reads I (.list ds) y u he ry
    exact SeqAt.notIn_list_reads r2 r1 (SeqAt.canLay_of_shaped se) (SeqAt.canLay_of_shaped sd) (room_in_shaped sd hu) ⟨.bl _, H, I, rfl, q⟩
  · obtain ⟨bs, r2⟩ := Dp.reads I (.tuple ds) y u he ry
    exact SeqAt.notIn_tuple_reads r2 r1 (SeqAt.canLay_of_shaped se) (SeqAt.canLay_of_shaped sd) (room_in_shaped sd hu) ⟨.bl _, H, I, rfl, q⟩
def rInSg (neg : Bool) : R2 := fun x y H Q => ∃ (c : Nat) (z : Str), x = .str ⟨#[c]⟩ ∧ y = .str z ∧ Q (.bl (if neg then !decide (c ∈ z.cps.toList) else decide (c ∈ z.cps.toList))) H
theorem op_inSg : OpR X (compareOp .In) (rInSg false) := op_in_sign
theorem op_notInSg : OpR X (compareOp .NotIn) (rInSg true) := op_notIn_sign
def seqPy (d : D) : Option (List PyData) := match d with
  | .lst xs => toPys xs
  | .tup xs => toPys xs
  | _ => none
def inD (neg : Bool) : D → D → Option R := fun d e => match e with
  | .str z => (match d with
    | .str ⟨w⟩ => (match w.toList with
      | [c] => some (.val (.bl (if neg then !decide (c ∈ z.cps.toList) else decide (c ∈ z.cps.toList))))
      | _ => none)
    | _ => none)
  | _ => match toPy d, seqPy e with
    | some p, some ps => if SeqAt.shaped p && SeqAt.shaped (.list ps) then some (.val (.bl (if neg then !ps.any (fun z => PyData.eqv z p) else ps.any fun z => PyData.eqv z p))) else none
    | _, _ => none
theorem p_in {K : PySem.W.Frag} {neg : Bool} : P2 K W (fun x y H Q => rInDT K neg x y H Q ∨ rInSg neg x y H Q) (by2 (inD neg)) := p2_by fun E Fb Hb stb F H st σ r1 r2 v w Q d1 d2 res s p h1 h2 e1 e2 e c => by
  unfold inD at e
  split at e
  · split at e
    · rename_i wd
      split at e
      · rename_i c0 hw
        cases e
        have ew : (⟨wd⟩ : Str) = ⟨#[c0]⟩ := by
          congr 1
          apply Array.ext'
          rw [hw]
        rw [look_str s h1 e1, look_str s h2 e2, ew]
        exact .inr ⟨c0, _, rfl, rfl, c _ F H s p (by simp only [RR, Rep])⟩
      · cases e
    · cases e
  · split at e
    · rename_i q1 q2 k1 k2
      split at e
      · rename_i hs
        cases e
        obtain ⟨hs1, hs2⟩ := Bool.and_eq_true_iff.mp hs
        refine .inl ⟨q1, q2, toPy_dp _ (look_rep s h1 e1) k1, ?_, hs1, hs2, c _ F H s p (by simp only [RR, Rep])⟩
        have r2' := look_rep s h2 e2
        unfold seqPy at k2
        split at k2
        · exact .inl (toPy_dp _ r2' (by simp only [toPy, k2, Option.map_some]))
        · exact .inr (toPy_dp _ r2' (by simp only [toPy, k2, Option.map_some]))
        · cases k2
      · cases e
    · cases e
def dIn := dOp2 (by2 (inD false))
def dNotIn := dOp2 (by2 (inD true))
theorem de_in (hu : X.A.units + 65 < cLine) (ha : DE X W a fa) (hb : DE X W b fb) (hm : behindInMarks .In b = false) : DE X W (.Compare a [.In] [b] pos) (dIn fa fb) := de_cmp ((op_inDT hu).or op_inSg) p_in ha hb hm
theorem de_notin (hu : X.A.units + 65 < cLine) (ha : DE X W a fa) (hb : DE X W b fb) (hm : behindInMarks .NotIn b = false) : DE X W (.Compare a [.NotIn] [b] pos) (dNotIn fa fb) := de_cmp ((op_notInDT hu).or op_notInSg) p_in ha hb hm

/-! ### slices -/
structure DO (X : Cx) (W : WX) (e : Option Expr) (f : DSt → Out (Option Int)) : Prop where
  po : PO X e (Rd X.K W (fun _ _ _ _ _ _ (a b : Option Int) => a = b) f)
theorem po_imp {X : Cx} {e : Option Expr} {t t' : TO} (h : PO X e t) (i : ∀ σ H Q, t' σ H Q → t σ H Q) : PO X e t' := ⟨fun pins s σ H Q I q => h.run pins s σ H Q I (i σ H Q q)⟩
def dNoPart : DSt → Out (Option Int) := fun st => .ok none st
def dPart (f : DX) : DSt → Out (Option Int) := bnd f fun r st => match look st r with
  | some (.int i) => .ok (some i) st
  | _ => .bad
theorem do_none : DO X W none dNoPart := ⟨po_imp po_none fun σ H Q ⟨E, F, st, s, q⟩ => q none F H s (Stp.refl F H st σ) rfl⟩
theorem do_some (ha : DE X W a fa) : DO X W (some a) (dPart fa) := by
  refine ⟨po_imp (po_some ha.pe) fun σ H Q ⟨E, F, st, s, q⟩ => ?_⟩
  refine Rd.first s q fun v F1 H1 st1 r1 s1 p1 h1 q1 => ?_
  split at q1
  · rename_i i e
    exact ⟨i, look_int s1 h1 e, q1 (some i) F1 H1 s1 p1 rfl⟩
  · exact q1.elim
def cutG {α : Type} (xs : List α) (lo hi : Option Int) : List α := (xs.drop (HT.sIx xs.length 0 lo)).take (HT.sIx xs.length xs.length hi - HT.sIx xs.length 0 lo)
theorem cut_rep {K : PySem.W.Frag} {F : Hp} {xs : List D} {vs : List V} (r : RepL K F xs vs) (lo hi : Option Int) : RepL K F (cutG xs lo hi) (cutV vs lo hi) := by
  unfold cutG cutV
  rw [r.length]
  exact (r.drop _).take _
def slD (lo hi : Option Int) : D → Option R
  | .lst xs => some (.tmp (cutG xs lo hi))
  | .scr xs => some (.tmp (cutG xs lo hi))
  | .tup xs => some (.val (.tup (cutG xs lo hi)))
  | .str z => if z.length ≤ lim then some (.val (.str (cutS z lo hi))) else none
  | _ => none
def rSlAll (K : PySem.W.Frag) : V → Option Int → Option Int → Hp → VK → Prop := fun x lo hi H Q => rSlL K x lo hi H Q ∨ (rSlA K x lo hi H Q ∨ rSlS x lo hi H Q)
theorem sl_all : SlR X (rSlAll X.K) := sl_list.or (sl_tupA.or sl_str)
theorem p_sl {K : PySem.W.Frag} (lo hi : Option Int) : P1 K W (fun x H Q => rSlAll K x lo hi H Q) (by1 (slD lo hi)) := p1_by fun E Fb Hb stb F H st σ r1 v Q d1 res s p h1 e1 e c => by
  unfold slD at e
  split at e
  · cases e
    obtain ⟨a, vs, rfl, ha, ra⟩ := look_list s h1 e1
    exact .inl ⟨a, vs, rfl, SqL.of ha, fun q hq => c.newL s p (cut_rep ra lo hi) hq⟩
  · cases e
    have k := notlst_val s h1 e1 (fun _ z => nomatch z)
    simp only [Rep] at k
    obtain ⟨a, vs, rfl, ha, ra⟩ := k
    exact .inl ⟨a, vs, rfl, sqL_mono s.ex ha, fun q hq => c.newL s p (cut_rep ra lo hi) hq⟩
  · rename_i xs
    cases e
    obtain ⟨a, vs, rfl, ha, ra⟩ := look_tup s h1 e1
    refine .inr (.inl ⟨a, vs, rfl, sqT_mono s.ex ha, fun z => ?_, fun z q hq => c.newT s p (cut_rep ra lo hi) hq⟩)
    have ec : cutG xs lo hi = xs := by
      unfold cutG
      rw [ra.length, z.1, z.2]
      rw [List.drop_zero, Nat.sub_zero, ← ra.length]
      exact List.take_length
    rw [ec] at c
    exact c _ F H s p (by simp only [RR, Rep]; exact ⟨a, vs, rfl, ha, ra⟩)
  · split at e
    · rename_i hz
      cases e
      rw [look_str s h1 e1]
      exact .inr (.inr ⟨_, rfl, lim_le hz, c _ F H s p (by simp only [RR, Rep])⟩)
    · cases e
  · cases e
def dSlice (fa : DX) (fl fh : DSt → Out (Option Int)) : DX := bnd fa fun r => bnd fl fun lo => bnd fh fun hi => by1 (slD lo hi) r
theorem de_slice {lo hi : Option Expr} {fl fh : DSt → Out (Option Int)} {p2 : Pos} (ha : DE X W a fa) (hl : DO X W lo fl) (hh : DO X W hi fh) : DE X W (.Subscript a (.Slice lo hi none p2) pos) (dSlice fa fl fh) := by
  refine ⟨pe_imp (pe_slice sl_all ha.pe hl.po hh.po) fun σ H Q ⟨E, F, st, s, q⟩ => ?_⟩
  refine Rd.first s q fun v F1 H1 st1 r1 s1 p1 h1 q1 => ?_
  refine Rd.next s1 p1 q1 fun l F2 H2 st2 l' s2 p2 p2' e2 q2 => ?_
  refine Rd.next s2 p2' q2 fun u F3 H3 st3 u' s3 p3 p3' e3 q3 => ?_
  have e2' : l' = l := e2
  have e3' : u' = u := e3
  subst e2' e3'
  exact p_sl l' u' E F H st F3 H3 st3 σ r1 v Q s3 p3' ((h1.step p2).step p3) q3

/-! ### built-ins by name -/
theorem de_callB {x : Str} {id : String} {e : Expr} {es : List Expr} {r : List V → Hp → VK → Prop} {op : ON} {g : DA} {p : Pos} (hc : CallR X (.builtin id) r) (hp : PN X.K W r op) (hg : Gl X x) (hm : X.mg x = none) (hv : bootBuiltins x = some (.builtin id)) (ha : DAs X W (e :: es) g)
    (hn : x ≠ "__name__" := by decide) (hdb : (x == ("__debug__" : Str)) = false := by decide) (he : starEach (e :: es) X.env = (false, eval e X.env) :: starEach es X.env := by rfl) (hpl : (backTo pos (starEach es X.env)).any (·.1) = false := by rfl) :
    DE X W (.Call (.Name x p) (e :: es) [] pos) (dArgs op g) := ⟨pe_imp (pe_callB hc hg hm hv ha.pa hn hdb he hpl) fun _ _ _ q => rd_args hp q⟩
theorem de_callTy {x : Str} {T : String} {e : Expr} {es : List Expr} {r : List V → Hp → VK → Prop} {op : ON} {g : DA} {p : Pos} (hc : CallR X (.type T) r) (hp : PN X.K W r op) (hg : Gl X x) (hm : X.mg x = none) (hv : bootBuiltins x = some (.type T)) (ha : DAs X W (e :: es) g)
    (hn : x ≠ "__name__" := by decide) (hdb : (x == ("__debug__" : Str)) = false := by decide) (he : starEach (e :: es) X.env = (false, eval e X.env) :: starEach es X.env := by rfl) (hpl : (backTo pos (starEach es X.env)).any (·.1) = false := by rfl) :
    DE X W (.Call (.Name x p) (e :: es) [] pos) (dArgs op g) := ⟨pe_imp (pe_callTy hc hg hm hv ha.pa hn hdb he hpl) fun _ _ _ q => rd_args hp q⟩
/-- one argument, by what is looked at -/
def on1 (op : D → Option R) : ON := fun rs st => match rs with
  | [r] => by1 op r st
  | _ => .bad
def on2 (op : D → D → Option R) : ON := fun rs st => match rs with
  | [r, r'] => by2 op r r' st
  | _ => .bad
theorem pn_on1 {K : PySem.W.Frag} {r : List V → Hp → VK → Prop} {op : D → Option R} (h : P1 K W (fun v H Q => r [v] H Q) (by1 op)) : PN K W r (on1 op) := by
  intro E Fb Hb stb F H st σ rs vs Q s p ⟨h1, _⟩ c
  unfold on1 at c
  split at c
  · cases h1 with
    | cons k t =>
      cases t
      exact h E Fb Hb stb F H st σ _ _ Q s p k c
  · exact c.elim
theorem pn_on2 {K : PySem.W.Frag} {r : List V → Hp → VK → Prop} {op : D → D → Option R} (h : P2 K W (fun v w H Q => r [v, w] H Q) (by2 op)) : PN K W r (on2 op) := by
  intro E Fb Hb stb F H st σ rs vs Q s p ⟨h1, _⟩ c
  unfold on2 at c
  split at c
  · cases h1 with
    | cons k t =>
      cases t with
      | cons k2 t2 =>
        cases t2
        exact h E Fb Hb stb F H st σ _ _ _ _ Q s p k k2 c
  · exact c.elim
def lenD : D → Option R
  | .lst xs => some (.val (.int xs.length))
  | .tup xs => some (.val (.int xs.length))
  | .str z => if z.length ≤ lim then some (.val (.int z.length)) else none
  | _ => none
theorem p_len {K : PySem.W.Frag} : P1 K W (fun v H Q => ∃ x n, [v] = [x] ∧ LenV K x H n ∧ Q (.int n) H) (by1 lenD) := p1_by fun E Fb Hb stb F H st σ r1 v Q d1 res s p h1 e1 e c => by
  unfold lenD at e
  split at e
  · cases e
    obtain ⟨a, vs, rfl, ha, ra⟩ := look_list s h1 e1
    refine ⟨_, vs.length, rfl, .inl ⟨vs, SqL.of ha, rfl⟩, c _ F H s p (by simp only [RR, Rep, ra.length])⟩
  · cases e
    obtain ⟨a, vs, rfl, ha, ra⟩ := look_tup s h1 e1
    refine ⟨_, vs.length, rfl, .inr ⟨vs, sqT_mono s.ex ha, rfl⟩, c _ F H s p (by simp only [RR, Rep, ra.length])⟩
  · split at e
    · rename_i hz
      cases e
      rw [look_str s h1 e1]
      exact ⟨_, _, rfl, ⟨lim_le hz, rfl⟩, c _ F H s p (by simp only [RR, Rep])⟩
    · cases e
  · cases e
def dLen (g : DA) := dArgs (on1 lenD) g
def listD : D → Option R
  | .lst xs => some (.tmp xs)
  | .tup xs => some (.tmp xs)
  | _ => none
theorem p_list {K : PySem.W.Frag} : P1 K W (fun v H Q => ∃ p ys, [v] = [.ref p] ∧ (SqL K H p ys ∨ SqT K H p ys) ∧ ∀ l, H l = none → Q (.ref l) (upd H l (.lst ys))) (by1 listD) := p1_by fun E Fb Hb stb F H st σ r1 v Q d1 res s p h1 e1 e c => by
  unfold listD at e
  split at e
  · cases e
    obtain ⟨a, vs, rfl, ha, ra⟩ := look_list s h1 e1
    exact ⟨a, vs, rfl, .inl (SqL.of ha), fun q hq => c.newL s p ra hq⟩
  · cases e
    obtain ⟨a, vs, rfl, ha, ra⟩ := look_tup s h1 e1
    exact ⟨a, vs, rfl, .inr (sqT_mono s.ex ha), fun q hq => c.newL s p ra hq⟩
  · cases e
def dList (g : DA) := dArgs (on1 listD) g
def tupleD : D → Option R
  | .lst xs => some (.val (.tup xs))
  | .tup xs => some (.val (.tup xs))
  | _ => none
theorem p_tuple {K : PySem.W.Frag} : P1 K W (fun v H Q => ∃ p ys, [v] = [.ref p] ∧ ((SqL K H p ys ∧ ∀ l, H l = none → Q (.ref l) (upd H l (.tup ys))) ∨ (SqT K H p ys ∧ Q (.ref p) H))) (by1 tupleD) := p1_by fun E Fb Hb stb F H st σ r1 v Q d1 res s p h1 e1 e c => by
  unfold tupleD at e
  split at e
  · cases e
    obtain ⟨a, vs, rfl, ha, ra⟩ := look_list s h1 e1
    exact ⟨a, vs, rfl, .inl ⟨SqL.of ha, fun q hq => c.newT s p ra hq⟩⟩
  · cases e
    obtain ⟨a, vs, rfl, ha, ra⟩ := look_tup s h1 e1
    exact ⟨a, vs, rfl, .inr ⟨sqT_mono s.ex ha, c _ F H s p (by simp only [RR, Rep]; exact ⟨a, vs, rfl, ha, ra⟩)⟩⟩
  · cases e
def dTuple (g : DA) := dArgs (on1 tupleD) g
def intD : D → Option R
  | .int i => some (.val (.int i))
  | .bl k => some (.val (.int (if k then 1 else 0)))
  | _ => none
theorem p_toint {K : PySem.W.Frag} : P1 K W (fun v H Q => (∃ i, [v] = [.int i] ∧ Q (.int i) H) ∨ ∃ k, [v] = [.bl k] ∧ Q (.int (if k then 1 else 0)) H) (by1 intD) := p1_by fun E Fb Hb stb F H st σ r1 v Q d1 res s p h1 e1 e c => by
  unfold intD at e
  split at e
  · cases e
    rw [look_int s h1 e1]
    exact .inl ⟨_, rfl, c _ F H s p (by simp only [RR, Rep])⟩
  · cases e
    rw [look_bl s h1 e1]
    exact .inr ⟨_, rfl, c _ F H s p (by simp only [RR, Rep])⟩
  · cases e
def dInt (g : DA) := dArgs (on1 intD) g
/-! isinstance of a built-in class -/
inductive Ty5 where
  | bool | int | str | tuple | list
def Ty5.nm : Ty5 → String
  | .bool => "bool" | .int => "int" | .str => "str" | .tuple => "tuple" | .list => "list"
def isiB : D → Ty5 → Option Bool
  | .non, _ => some false
  | .bl _, .bool => some true
  | .bl _, .int => some true
  | .bl _, _ => some false
  | .int _, .int => some true
  | .int _, _ => some false
  | .str _, .str => some true
  | .str _, _ => some false
  | .tup _, .tuple => some true
  | .tup _, _ => some false
  | .lst _, .list => some true
  | .lst _, _ => some false
  | .dic _ _, _ => some false
  | _, _ => none
def isiD (t : Ty5) : D → Option R := fun d => (isiB d t).map fun b => .val (.bl b)
theorem tyx_tup {K : PySem.W.Frag} {H : Hp} {a : Addr} {vs : List V} (h : SqT K H a vs) : TyX K H (.ref a) (.type "tuple") := by
  rcases h with (h | ⟨o, h⟩) | ⟨o, its, n, h1, h2, _⟩
  · exact .base (.tup h)
  · exact .fTuple h
  · exact .kTuple h1 h2
theorem p_isi {K : PySem.W.Frag} (t : Ty5) : P1 K W (fun v H Q => rIsi K [v, .ty t.nm] H Q) (by1 (isiD t)) := p1_by fun E Fb Hb stb F H st σ r1 v Q d1 res s p h1 e1 e c => by
  obtain ⟨b, eb, rfl⟩ := Option.map_eq_some_iff.mp e
  have fin : ∀ (T : String), TyX K H v (.type T) → kitB T t.nm = some b → rIsi K [v, .ty t.nm] H Q := fun T hT hk =>
    ⟨v, .ty t.nm, .type T, .type t.nm, b, rfl, .ty _, hT, kit_ty hk, c _ F H s p (by simp only [RR, Rep])⟩
  cases d1 with
  | non =>
    rw [look_non s h1 e1] at fin ⊢
    refine fin "NoneType" (.base .non) ?_
    cases t <;> (simp only [isiB, Option.some.injEq] at eb; subst eb; decide +kernel)
  | bl x =>
    rw [look_bl s h1 e1] at fin ⊢
    refine fin "bool" (.base (.bl x)) ?_
    cases t <;> (simp only [isiB, Option.some.injEq] at eb; subst eb; decide +kernel)
  | int x =>
    rw [look_int s h1 e1] at fin ⊢
    refine fin "int" (.base (.int x)) ?_
    cases t <;> (simp only [isiB, Option.some.injEq] at eb; subst eb; decide +kernel)
  | str x =>
    rw [look_str s h1 e1] at fin ⊢
    refine fin "str" (.base (.str x)) ?_
    cases t <;> (simp only [isiB, Option.some.injEq] at eb; subst eb; decide +kernel)
  | tup xs =>
    obtain ⟨a, vs, rfl, ha, ra⟩ := look_tup s h1 e1
    refine fin "tuple" (tyx_tup (sqT_mono s.ex ha)) ?_
    cases t <;> (simp only [isiB, Option.some.injEq] at eb; subst eb; decide +kernel)
  | lst xs =>
    obtain ⟨a, vs, rfl, ha, ra⟩ := look_list s h1 e1
    refine fin "list" (.base (.lst ha)) ?_
    cases t <;> (simp only [isiB, Option.some.injEq] at eb; subst eb; decide +kernel)
  | dic ks ds =>
    have q := notlst_val s h1 e1 (fun _ z => nomatch z)
    simp only [Rep] at q
    obtain ⟨a, vs, rfl, k1, _⟩ := q
    refine fin "dict" (.base (.dK (s.ex _ _ k1))) ?_
    cases t <;> (simp only [isiB, Option.some.injEq] at eb; subst eb; decide +kernel)
  | scr xs => cases t <;> simp [isiB] at eb
  | obj n ns ds => cases t <;> simp [isiB] at eb
  | ty n => cases t <;> simp [isiB] at eb
  | gl n => cases t <;> simp [isiB] at eb
end
end Dl

namespace Dl
open PySem L2 PySem.Spec PyProof.Rows
variable [ExI]
/-- a relation bears an older base -/
def BMono {α β : Type} (rel : Rel α β) : Prop := ∀ E B B' F H st σ a b, (∀ x, B' x = none → B x = none) → rel E B' F H st σ a b → rel E B F H st σ a b
theorem bm_B : BMono relB := fun _ _ _ _ _ _ _ _ _ _ h => h
theorem bm_E {K : PySem.W.Frag} : BMono (RR K) := fun _ _ _ _ _ _ _ _ _ l h => h.base l
theorem bm_A {K : PySem.W.Frag} : BMono (relA K) := fun _ _ _ _ _ _ _ _ _ l h => ⟨paired_base l h.1, h.2⟩
theorem Cont.here {K : PySem.W.Frag} {W : WX} {α β : Type} {rel : Rel α β} {E : Ent} {F H F1 H1 : Hp} {st st1 : DSt} {σ : L2.St} {o : Out α} {Q : β → Hp → Prop} (bm : BMono rel) (p : Stp F H st σ F1 H1 st1) (h : Cont K W rel E F H st σ o Q) : Cont K W rel E F1 H1 st1 σ o Q := by
  cases o with
  | ok a st' => exact fun b F' H' s p' r => h b F' H' s (p.trans p') (bm _ _ _ _ _ _ _ _ _ p.live r)
  | exc x st' => exact fun c d F' H' s p' r => h c d F' H' s (p.trans p') r
  | bad => exact h
/-! ### tests -/
section
variable {X : Cx} {W : WX} {a b c : Expr} {fa fb fc : DX} {pos : Pos}
def asB (f : DX) : DT := bnd f fun r st => match look st r with
  | some (.bl k) => .ok k st
  | _ => .bad
theorem rd_asB {K : PySem.W.Frag} {f : DX} {σ : L2.St} {H : Hp} {Q : Bool → Hp → Prop} (q : RdT K W (asB f) σ H Q) : RdE K W f σ H (fun x H' => ∃ k, x = .bl k ∧ Q k H') := by
  obtain ⟨E, F, st, s, q⟩ := q
  refine Rd.first s q fun v F1 H1 st1 r1 s1 p1 h1 q1 => ?_
  split at q1
  · rename_i k e
    exact ⟨k, look_bl s1 h1 e, q1 k F1 H1 s1 p1 rfl⟩
  · exact q1.elim
/-- a comparison's rule -/
structure CR2 (X : Cx) (W : WX) (o : CmpOp) (op : O2) : Prop where
  ex : ∃ r, OpR X (compareOp o) r ∧ P2 X.K W r op
theorem de_c {o : CmpOp} {op : O2} (h : CR2 X W o op) (ha : DE X W a fa) (hb : DE X W b fb) (hm : behindInMarks o b = false) : DE X W (.Compare a [o] [b] pos) (dOp2 op fa fb) := by
  obtain ⟨r, h1, h2⟩ := h.ex
  exact de_cmp h1 h2 ha hb hm
theorem dt_c {o : CmpOp} {op : O2} (h : CR2 X W o op) (ha : DE X W a fa) (hb : DE X W b fb) (hm : behindInMarks o b = false) : DTs X W (.Compare a [o] [b] pos) (asB (dOp2 op fa fb)) := by
  obtain ⟨r, h1, h2⟩ := h.ex
  exact ⟨pt_imp (pt_cmpR h1 ha.pe hb.pe hm) fun σ H Q q => rd_op2 h2 (rd_asB q)⟩
def oI (g : Int → Int → Bool) : O2 := by2 (int2 (fun _ _ => true) fun i j => .bl (g i j))
def oLt : O2 := oI fun i j => decide (i < j)
def oLe : O2 := oI fun i j => decide (i ≤ j)
def oGt : O2 := oI fun i j => decide (j < i)
def oGe : O2 := oI fun i j => decide (j ≤ i)
def oEq : O2 := by2 (eqD false)
def oNe : O2 := by2 (eqD true)
def oIs : O2 := by2 (isD false)
def oIsNot : O2 := by2 (isD true)
def oIn : O2 := by2 (inD false)
def oNotIn : O2 := by2 (inD true)
theorem c_lt : CR2 X W .Lt oLt := ⟨_, op_lt, p_int0 fun i j F => by simp only [Rep]⟩
theorem c_le : CR2 X W .LtE oLe := ⟨_, op_le, p_int0 fun i j F => by simp only [Rep]⟩
theorem c_gt : CR2 X W .Gt oGt := ⟨_, op_gt, p_int0 fun i j F => by simp only [Rep]⟩
theorem c_ge : CR2 X W .GtE oGe := ⟨_, op_ge, p_int0 fun i j F => by simp only [Rep]⟩
theorem c_eq (hu : X.A.units + 64 < cLine) : CR2 X W .Eq oEq := ⟨_, op_eqD hu, p_eq⟩
theorem c_ne (hu : X.A.units + 64 < cLine) : CR2 X W .NotEq oNe := ⟨_, op_neD hu, p_ne⟩
theorem c_is : CR2 X W .Is oIs := ⟨_, op_isBl.or op_isN, p_is⟩
theorem c_isnot : CR2 X W .IsNot oIsNot := ⟨_, op_notBl.or op_notN, p_isnot⟩
theorem c_in (hu : X.A.units + 65 < cLine) : CR2 X W .In oIn := ⟨_, (op_inDT hu).or op_inSg, p_in⟩
theorem c_notin (hu : X.A.units + 65 < cLine) : CR2 X W .NotIn oNotIn := ⟨_, (op_notInDT hu).or op_notInSg, p_in⟩
/-! truth of any value -/
def truD : D → Option Bool
  | .non => some false
  | .bl b => some b
  | .int i => some (i != 0)
  | .str z => if z.length ≤ lim then some ((z.length : Int) != 0) else none
  | .tup xs => some (!xs.isEmpty)
  | .lst xs => some (!xs.isEmpty)
  | _ => none
def dTru (f : DX) : DT := bnd f fun r st => match look st r with
  | some d => (match truD d with
    | some k => .ok k st
    | none => .bad)
  | none => .bad
theorem empty_rep {K : PySem.W.Frag} {F : Hp} {xs : List D} {vs : List V} (r : RepL K F xs vs) : xs.isEmpty = vs.isEmpty := by
  have := r.length
  cases xs <;> cases vs <;> simp_all
theorem dt_val (ha : DE X W a fa) (he : ∀ whole, isTrue a X.env whole = (do let v ← whole; standAt a.pos; holding [v] (truthy v)) := by intro _; rfl) : DTs X W a (dTru fa) := by
  refine ⟨pt_imp (pt_truth ha.pe he) fun σ H Q ⟨E, F, st, s, q⟩ => ?_⟩
  refine Rd.first s q fun v F1 H1 st1 r1 s1 p1 h1 q1 => ?_
  split at q1
  · rename_i d e
    split at q1
    · rename_i k ek
      refine ⟨k, ?_, q1 k F1 H1 s1 p1 rfl⟩
      cases d with
      | non =>
        rw [look_non s1 h1 e]
        simp only [truD, Option.some.injEq] at ek
        exact ek.symm
      | bl b =>
        rw [look_bl s1 h1 e]
        simp only [truD, Option.some.injEq] at ek
        exact ek.symm
      | int i =>
        rw [look_int s1 h1 e]
        simp only [truD, Option.some.injEq] at ek
        exact ek.symm
      | str z =>
        rw [look_str s1 h1 e]
        simp only [truD] at ek
        split at ek
        · rename_i hz
          cases ek
          exact ⟨lim_le hz, rfl⟩
        · cases ek
      | tup xs =>
        obtain ⟨p, vs, rfl, hp, rp⟩ := look_tup s1 h1 e
        simp only [truD, Option.some.injEq] at ek
        exact .inr (.inl ⟨vs, sqT_mono s1.ex hp, by rw [← ek, empty_rep rp]⟩)
      | lst xs =>
        obtain ⟨p, vs, rfl, hp, rp⟩ := look_list s1 h1 e
        simp only [truD, Option.some.injEq] at ek
        exact .inl ⟨vs, SqL.of hp, by rw [← ek, empty_rep rp]⟩
      | scr xs => simp [truD] at ek
      | obj n ns ds => simp [truD] at ek
      | dic ks ds => simp [truD] at ek
      | ty n => simp [truD] at ek
      | gl n => simp [truD] at ek
    · exact q1.elim
  · exact q1.elim
def tNotD (f : DT) : DT := bnd f fun k st => .ok (!k) st
theorem dt_not {f : DT} (h : DTs X W a f) : DTs X W (.UnaryOp .Not a pos) (tNotD f) := by
  refine ⟨pt_imp (pt_not h.pt) fun σ H Q ⟨E, F, st, s, q⟩ => ?_⟩
  exact Rd.first s q fun k F1 H1 st1 k' s1 p1 e q1 => q1 (!k) F1 H1 s1 p1 (congrArg (fun z => !z) (show k' = k from e))
structure DW (X : Cx) (W : WX) (e : Expr) (f : DT) : Prop where
  pw : PW X e (RdT X.K W f)
theorem dt_w {f : DT} (h : DW X W a f) : DTs X W a f := ⟨h.pw.pt⟩
def tAndD (f g : DT) : DT := bnd f fun k => if k then g else fun st => .ok false st
def tOrD (f g : DT) : DT := bnd f fun k => if k then (fun st => .ok true st) else g
theorem dw_and1 {f : DT} (h : DTs X W a f) : DW X W (.BoolOp .And [a] pos) f := ⟨pw_and1 h.pt⟩
theorem dw_or1 {f : DT} (h : DTs X W a f) : DW X W (.BoolOp .Or [a] pos) f := ⟨pw_or1 h.pt⟩
theorem dw_and {f g : DT} {rest : List Expr} (h : DTs X W a f) (hr : DW X W (.BoolOp .And (b :: rest) pos) g) : DW X W (.BoolOp .And (a :: b :: rest) pos) (tAndD f g) := by
  refine ⟨pw_imp (pw_and h.pt hr.pw) fun σ H Q ⟨E, F, st, s, q⟩ => ?_⟩
  refine Rd.first s q fun k F1 H1 st1 k' s1 p1 e q1 => ?_
  have e' : k' = k := e
  subst e'
  cases k' with
  | true => exact ⟨E, F1, st1, s1, Cont.here bm_B p1 q1⟩
  | false => exact q1 false F1 H1 s1 p1 rfl
theorem dw_or {f g : DT} {rest : List Expr} (h : DTs X W a f) (hr : DW X W (.BoolOp .Or (b :: rest) pos) g) : DW X W (.BoolOp .Or (a :: b :: rest) pos) (tOrD f g) := by
  refine ⟨pw_imp (pw_or h.pt hr.pw) fun σ H Q ⟨E, F, st, s, q⟩ => ?_⟩
  refine Rd.first s q fun k F1 H1 st1 k' s1 p1 e q1 => ?_
  have e' : k' = k := e
  subst e'
  cases k' with
  | false => exact ⟨E, F1, st1, s1, Cont.here bm_B p1 q1⟩
  | true => exact q1 true F1 H1 s1 p1 rfl
/-! and, or, not as values -/
def dAndV (f g : DX) : DX := bnd f fun r st => match look st r with
  | some (.bl true) => g st
  | some (.bl false) => .ok (.val (.bl false)) st
  | _ => .bad
def dOrV (f g : DX) : DX := bnd f fun r st => match look st r with
  | some (.bl true) => .ok (.val (.bl true)) st
  | some (.bl false) => g st
  | _ => .bad
def dNotV (f : DX) : DX := bnd f fun r st => match look st r with
  | some (.bl k) => .ok (.val (.bl (!k))) st
  | _ => .bad
theorem de_one {o : BoolOp} (h : DE X W a fa) : DE X W (.BoolOp o [a] pos) fa := ⟨pe_one h.pe⟩
theorem de_and {rest : List Expr} (h : DE X W a fa) (hr : DE X W (.BoolOp .And (b :: rest) pos) fb) : DE X W (.BoolOp .And (a :: b :: rest) pos) (dAndV fa fb) := by
  refine ⟨pe_imp (pe_and h.pe hr.pe) fun σ H Q ⟨E, F, st, s, q⟩ => ?_⟩
  refine Rd.first s q fun v F1 H1 st1 r1 s1 p1 h1 q1 => ?_
  split at q1
  · rename_i e
    exact ⟨true, look_bl s1 h1 e, (show (if true = true then _ else _) from iteT ⟨E, F1, st1, s1, Cont.here bm_E p1 q1⟩)⟩
  · rename_i e
    exact ⟨false, look_bl s1 h1 e, iteF (q1 _ F1 H1 s1 p1 (by simp only [RR, Rep]))⟩
  · exact q1.elim
theorem de_or {rest : List Expr} (h : DE X W a fa) (hr : DE X W (.BoolOp .Or (b :: rest) pos) fb) : DE X W (.BoolOp .Or (a :: b :: rest) pos) (dOrV fa fb) := by
  refine ⟨pe_imp (pe_or h.pe hr.pe) fun σ H Q ⟨E, F, st, s, q⟩ => ?_⟩
  refine Rd.first s q fun v F1 H1 st1 r1 s1 p1 h1 q1 => ?_
  split at q1
  · rename_i e
    exact ⟨true, look_bl s1 h1 e, iteT (q1 _ F1 H1 s1 p1 (by simp only [RR, Rep]))⟩
  · rename_i e
    exact ⟨false, look_bl s1 h1 e, iteF ⟨E, F1, st1, s1, Cont.here bm_E p1 q1⟩⟩
  · exact q1.elim
theorem de_not (h : DE X W a fa) : DE X W (.UnaryOp .Not a pos) (dNotV fa) := by
  refine ⟨pe_imp (pe_not h.pe) fun σ H Q ⟨E, F, st, s, q⟩ => ?_⟩
  refine Rd.first s q fun v F1 H1 st1 r1 s1 p1 h1 q1 => ?_
  split at q1
  · rename_i k e
    exact ⟨k, look_bl s1 h1 e, q1 _ F1 H1 s1 p1 (by simp only [RR, Rep])⟩
  · exact q1.elim
def dIfE (t : DT) (f g : DX) : DX := bnd t fun k => if k then f else g
theorem de_if {t : DT} (ht : DTs X W c t) (ha : DE X W a fa) (hb : DE X W b fb) : DE X W (.IfExp c a b pos) (dIfE t fa fb) := by
  refine ⟨pe_imp (pe_ifExp ht.pt ha.pe hb.pe) fun σ H Q ⟨E, F, st, s, q⟩ => ?_⟩
  refine Rd.first s q fun k F1 H1 st1 k' s1 p1 e q1 => ?_
  have e' : k' = k := e
  subst e'
  cases k' with
  | true => exact iteT ⟨E, F1, st1, s1, Cont.here bm_E p1 q1⟩
  | false => exact iteF ⟨E, F1, st1, s1, Cont.here bm_E p1 q1⟩
/-! a chain of two comparisons of ints -/
def dChain (g h : Int → Int → Bool) (fa fb fc : DX) : DX := bnd fa fun r1 => bnd fb fun r2 st => match look st r1, look st r2 with
  | some (.int i), some (.int j) => if g i j then (bnd fc fun r3 st3 => match look st3 r3 with
      | some (.int k) => .ok (.val (.bl (h j k))) st3
      | _ => .bad) st else .ok (.val (.bl false)) st
  | _, _ => .bad
theorem rd_chain {K : PySem.W.Frag} {g h : Int → Int → Bool} {σ : L2.St} {H : Hp} {Q : VK} (q : RdE K W (dChain g h fa fb fc) σ H Q) : tChain (rI0 fun i j => .bl (g i j)) (rI0 fun i j => .bl (h i j)) (RdE K W fa) (RdE K W fb) (RdE K W fc) σ H Q := by
  obtain ⟨E, F, st, s, q⟩ := q
  refine Rd.first s q fun v F1 H1 st1 r1 s1 p1 h1 q1 => ?_
  refine Rd.next s1 p1 q1 fun w F2 H2 st2 r2 s2 p2 p h2 q2 => ?_
  split at q2
  · rename_i i j e1 e2
    rw [look_int s2 (h1.step p2) e1, look_int s2 h2 e2]
    refine ⟨i, j, rfl, rfl, g i j, rfl, ?_⟩
    split at q2
    · rename_i hg
      rw [hg]
      refine iteT (Rd.next s2 p q2 fun u F3 H3 st3 r3 s3 p3 p3' h3 q3 => ?_)
      split at q3
      · rename_i k e3
        rw [look_int s3 h3 e3]
        exact ⟨j, k, rfl, rfl, q3 _ F3 H3 s3 p3' (by simp only [RR, Rep])⟩
      · exact q3.elim
    · rename_i hg
      have hg' : g i j = false := by simpa using hg
      rw [hg']
      exact iteF (q2 _ F2 H2 s2 p (by simp only [RR, Rep]))
  · exact q2.elim
/-- a comparison of ints by its rule -/
structure CRI (X : Cx) (o : CmpOp) (g : Int → Int → Bool) : Prop where
  op : OpR X (compareOp o) (rI0 fun i j => .bl (g i j))
theorem i_lt : CRI X .Lt fun i j => decide (i < j) := ⟨op_lt⟩
theorem i_le : CRI X .LtE fun i j => decide (i ≤ j) := ⟨op_le⟩
theorem i_gt : CRI X .Gt fun i j => decide (j < i) := ⟨op_gt⟩
theorem i_ge : CRI X .GtE fun i j => decide (j ≤ i) := ⟨op_ge⟩
theorem de_chain {o o' : CmpOp} {g h : Int → Int → Bool} (ho : CRI X o g) (ho' : CRI X o' h) (ha : DE X W a fa) (hb : DE X W b fb) (hc : DE X W c fc) (hm : lastMarks [o, o'] [b, c] = false := by with_unfolding_all rfl) : DE X W (.Compare a [o, o'] [b, c] pos) (dChain g h fa fb fc) :=
  ⟨pe_imp (pe_chain ho.op ho'.op ha.pe hb.pe hc.pe hm) fun σ H Q q => rd_chain q⟩
theorem dt_chain {o o' : CmpOp} {g h : Int → Int → Bool} (ho : CRI X o g) (ho' : CRI X o' h) (ha : DE X W a fa) (hb : DE X W b fb) (hc : DE X W c fc) (hm : lastMarks [o, o'] [b, c] = false := by with_unfolding_all rfl) : DTs X W (.Compare a [o, o'] [b, c] pos) (asB (dChain g h fa fb fc)) :=
  ⟨pt_imp (pt_chain ho.op ho'.op ha.pe hb.pe hc.pe hm) fun σ H Q q => rd_chain (rd_asB q)⟩
/-! displays -/
def dTup (g : DA) : DX := bnd g fun rs st => match frzs rs st with
  | some (ds, st') => if ds.length ≤ lim then .ok (.val (.tup ds)) st' else .bad
  | none => .bad
def dLst (g : DA) : DX := bnd g fun rs st => match frzs rs st with
  | some (ds, st') => if ds.length ≤ lim then .ok (.tmp ds) st' else .bad
  | none => .bad
theorem de_tup {es : List Expr} {g : DA} {k : Nat} (h : DAs X W es g) : DE X W (.Tuple es k pos) (dTup g) := by
  refine ⟨pe_imp (pe_tup h.pa) fun σ H Q ⟨E, F, st, s, q⟩ => ?_⟩
  refine Rd.first s q fun vs F1 H1 st1 rs s1 p1 h1 q1 => ?_
  split at q1
  · rename_i ds st2 e
    split at q1
    · rename_i hz
      obtain ⟨F2, s2, p2, r2, _⟩ := frzs_ok s1 p1 h1 e
      exact ⟨by rw [← r2.length]; exact lim_le hz, fun p hp => q1.newT s2 p2 r2 hp⟩
    · exact q1.elim
  · exact q1.elim
theorem de_lst {es : List Expr} {g : DA} (h : DAs X W es g) : DE X W (.List es pos) (dLst g) := by
  refine ⟨pe_imp (pe_lst h.pa) fun σ H Q ⟨E, F, st, s, q⟩ => ?_⟩
  refine Rd.first s q fun vs F1 H1 st1 rs s1 p1 h1 q1 => ?_
  split at q1
  · rename_i ds st2 e
    split at q1
    · rename_i hz
      obtain ⟨F2, s2, p2, r2, _⟩ := frzs_ok s1 p1 h1 e
      exact ⟨by rw [← r2.length]; exact lim_le hz, fun p hp => q1.newL s2 p2 r2 hp⟩
    · exact q1.elim
  · exact q1.elim
end
end Dl

namespace Dl
open PySem L2 PySem.Spec PyProof.Rows
variable [ExI]
/-! ### statements -/
def ContS (K : PySem.W.Frag) (W : WX) (E : Ent) (F : Hp) (o : Fl) (D : Ends) : Prop :=
  match o with
  | .nx st => ∀ σ' F' H', SR K E F' H' st σ' → Same F F' → D.nx σ' H'
  | .bk st => ∀ σ' F' H', SR K E F' H' st σ' → Same F F' → D.bk σ' H'
  | .ct st => ∀ σ' F' H', SR K E F' H' st σ' → Same F F' → D.ct σ' H'
  | .rt r st => ∀ v σ' F' H', SR K E F' H' st σ' → Same F F' → RR K E (fun _ => none) F' H' st σ' r v → D.rt v H'
  | .exc x st => ∀ c d σ' F' H', SR K E F' H' st σ' → Same F F' → XR K F' x c d → W c d σ' H'
  | .bad => False
def RdS (K : PySem.W.Frag) (W : WX) (f : DS) : TS := fun D σ H => ∃ E F st, SR K E F H st σ ∧ ContS K W E F (f st) D
structure DSj (X : Cx) (W : WX) (s : Stmt) (f : DS) : Prop where
  ps : PS X s (RdS X.K W f)
structure DSs (X : Cx) (W : WX) (s : List Stmt) (f : DS) : Prop where
  ps : PSs X s (RdS X.K W f)
theorem ps_imp {X : Cx} {e : Stmt} {t t' : TS} (h : PS X e t) (i : ∀ D σ H, t' D σ H → t D σ H) : PS X e t' := ⟨fun pins s σ H D I q => h.run pins s σ H D I (i D σ H q)⟩
theorem pss_imp {X : Cx} {e : List Stmt} {t t' : TS} (h : PSs X e t) (i : ∀ D σ H, t' D σ H → t D σ H) : PSs X e t' := ⟨fun pins s σ H D I q => h.run pins s σ H D I (i D σ H q)⟩
theorem ContS.shift {K : PySem.W.Frag} {W : WX} {E : Ent} {F F1 : Hp} {o : Fl} {D : Ends} (h : ContS K W E F o D) (e : Same F F1) : ContS K W E F1 o D := by
  cases o with
  | nx st => exact fun σ' F' H' s e' => h σ' F' H' s (e.trans e')
  | bk st => exact fun σ' F' H' s e' => h σ' F' H' s (e.trans e')
  | ct st => exact fun σ' F' H' s e' => h σ' F' H' s (e.trans e')
  | rt r st => exact fun v σ' F' H' s e' => h v σ' F' H' s (e.trans e')
  | exc x st => exact fun c d σ' F' H' s e' => h c d σ' F' H' s (e.trans e')
  | bad => exact h
/-- a part of a statement is read: Q of what it gives -/
def toFl {α : Type} (f : DSt → Out α) (g : α → DSt → Fl) : DS := fun st => match f st with
  | .ok a st' => g a st'
  | .exc x st' => .exc x st'
  | .bad => .bad
theorem ContS.part {K : PySem.W.Frag} {W : WX} {α β : Type} {rel : Rel α β} {E : Ent} {F H : Hp} {st : DSt} {σ : L2.St} {f : DSt → Out α} {g : α → DSt → Fl} {D : Ends} {q : β → Hp → Prop} (h : ContS K W E F (toFl f g st) D)
    (k : ∀ b F1 H1 st1 a, SR K E F1 H1 st1 σ → Stp F H st σ F1 H1 st1 → rel E H F1 H1 st1 σ a b → ContS K W E F1 (g a st1) D → q b H1) : Cont K W rel E F H st σ (f st) q := by
  unfold toFl at h
  cases e : f st with
  | ok a st' =>
    rw [e] at h
    exact fun b F' H' s p r => k b F' H' st' a s p r (h.shift p.ex)
  | exc x st' =>
    rw [e] at h
    exact fun c d F' H' s p r => h c d σ F' H' s p.ex r
  | bad =>
    rw [e] at h
    exact h
theorem Rd.part {K : PySem.W.Frag} {W : WX} {α β : Type} {rel : Rel α β} {E : Ent} {F H : Hp} {st : DSt} {σ : L2.St} {f : DSt → Out α} {g : α → DSt → Fl} {D : Ends} {q : β → Hp → Prop} (s : SR K E F H st σ) (h : ContS K W E F (toFl f g st) D)
    (k : ∀ b F1 H1 st1 a, SR K E F1 H1 st1 σ → Stp F H st σ F1 H1 st1 → rel E H F1 H1 st1 σ a b → ContS K W E F1 (g a st1) D → q b H1) : Rd K W rel f σ H q := ⟨E, F, st, s, ContS.part h k⟩

section
variable {X : Cx} {W : WX} {a b c : Expr} {fa fb : DX} {pos : Pos} {s : Stmt} {ss : List Stmt}
def dNx : DS := fun st => .nx st
def dSeq (f g : DS) : DS := fun st => match f st with
  | .nx st' => g st'
  | o => o
theorem ds_nil : DSs X W [] dNx := ⟨pss_imp pss_nil fun D σ H ⟨E, F, st, s, q⟩ => q σ F H s (Same.refl F)⟩
theorem ds_one {f : DS} (h : DSj X W s f) : DSs X W [s] f := ⟨pss_one h.ps⟩
theorem ds_cons {f g : DS} (h : DSj X W s f) (hr : DSs X W ss g) : DSs X W (s :: ss) (dSeq f g) := by
  refine ⟨pss_imp (pss_cons h.ps hr.ps) fun D σ H ⟨E, F, st, sr, q⟩ => ⟨E, F, st, sr, ?_⟩⟩
  unfold dSeq at q
  cases e : f st with
  | nx st' =>
    rw [e] at q
    exact fun σ' F' H' s' e' => ⟨E, F', st', s', q.shift e'⟩
  | bk st' =>
    rw [e] at q
    exact q
  | ct st' =>
    rw [e] at q
    exact q
  | rt r st' =>
    rw [e] at q
    exact q
  | exc x st' =>
    rw [e] at q
    exact q
  | bad =>
    rw [e] at q
    exact q
theorem ds_pass : DSj X W (.Pass pos) dNx := ⟨ps_imp ps_pass fun D σ H ⟨E, F, st, s, q⟩ => q σ F H s (Same.refl F)⟩
theorem ds_break : DSj X W (.Break pos) (fun st => .bk st) := ⟨ps_imp ps_break fun D σ H ⟨E, F, st, s, q⟩ => q σ F H s (Same.refl F)⟩
theorem ds_continue : DSj X W (.Continue pos) (fun st => .ct st) := ⟨ps_imp ps_continue fun D σ H ⟨E, F, st, s, q⟩ => q σ F H s (Same.refl F)⟩
def dDrop (f : DX) : DS := toFl f fun _ st => .nx st
theorem ds_expr (h : DE X W a fa) (hs : swapsWith a none pos.line X.env = pure false := by rfl) : DSj X W (.Expr a pos) (dDrop fa) :=
  ⟨ps_imp (ps_expr h.pe hs) fun D σ H ⟨E, F, st, s, q⟩ => Rd.part s q fun v F1 H1 st1 r s1 p1 h1 q1 => q1 σ F1 H1 s1 (Same.refl F1)⟩
def dRet (f : DX) : DS := toFl f fun r st => .rt r st
theorem ds_ret (h : DE X W a fa) : DSj X W (.Return (some a) pos) (dRet fa) :=
  ⟨ps_imp (ps_ret h.pe) fun D σ H ⟨E, F, st, s, q⟩ => Rd.part s q fun v F1 H1 st1 r s1 p1 h1 q1 => q1 v σ F1 H1 s1 (Same.refl F1) (h1.base fun _ _ => rfl)⟩
def dRetN : DS := fun st => .rt (.val .non) st
theorem ds_retN : DSj X W (.Return none pos) dRetN := ⟨ps_imp ps_retN fun D σ H ⟨E, F, st, s, q⟩ => q .non σ F H s (Same.refl F) (by simp only [RR, Rep])⟩
def dIf (t : DT) (f g : DS) : DS := toFl t fun k => if k then f else g
theorem ds_if {ba bb : List Stmt} {t : DT} {f g : DS} (ht : DTs X W c t) (hf : DSs X W ba f) (hg : DSs X W bb g) : DSj X W (.If c ba bb pos) (dIf t f g) := by
  refine ⟨ps_imp (ps_if ht.pt hf.ps hg.ps) fun D σ H ⟨E, F, st, s, q⟩ => Rd.part s q fun k F1 H1 st1 k' s1 p1 e q1 => ?_⟩
  have e' : k' = k := e
  subst e'
  cases k' with
  | true => exact iteT ⟨E, F1, st1, s1, q1⟩
  | false => exact iteF ⟨E, F1, st1, s1, q1⟩
end

/-! ### stores to names -/
section
variable {K : PySem.W.Frag} {E : Ent} {F H : Hp} {st : DSt} {σ : L2.St}
theorem own_set {i : Nat} {x : Option S} {p : Addr} {v : V} (h : OwnAt (st.set i x) (σ.set i (some v)) p) (hi : i < st.length) (hl : st.length = σ.length) : OwnAt st σ p ∨ ((∃ xs, x = some (.own xs) ∨ x = some (.bor xs)) ∧ v = .ref p) := by
  obtain ⟨j, xs, h1, h2⟩ := h
  by_cases e : j = i
  · subst e
    rw [List.getElem?_set_self (by omega)] at h2
    rw [List.getElem?_set_self hi] at h1
    refine .inr ⟨⟨xs, ?_⟩, ?_⟩
    · rcases h1 with z | z
      · exact .inl (Option.some.inj z)
      · exact .inr (Option.some.inj z)
    · exact Option.some.inj (Option.some.inj h2)
  · rw [List.getElem?_set_ne (fun z => e z.symm)] at h1 h2
    exact .inl ⟨j, xs, h1, h2⟩
theorem SR.setVal {i : Nat} {d : D} {v : V} (s : SR K E F H st σ) (hi : i < st.length) (r : Rep K F d v) : SR K E F H (st.set i (some (.val d))) (σ.set i (some v)) := by
  have hl := s.len
  have other : ∀ {j : Nat} {y : S}, (st.set i (some (.val d)))[j]? = some (some y) → (∃ d', y = .val d') ∨ (j ≠ i ∧ st[j]? = some (some y)) := fun {j y} h => by
    rcases get_set h with ⟨_, z⟩ | ⟨n, z⟩
    · exact .inl ⟨d, Option.some.inj z⟩
    · exact .inr ⟨n, z⟩
  have back : ∀ {j : Nat}, j ≠ i → (σ.set i (some v))[j]? = σ[j]? := fun {j} n => List.getElem?_set_ne fun z => n z.symm
  refine ⟨by rw [List.length_set, List.length_set]; exact hl, s.ex, fun j d' h => ?_, fun j xs h => ?_, fun j xs h => ?_, fun j k xs ys p h1 h2 h3 h4 => ?_, s.fF, s.fE, s.fH, s.fB, fun j c ns ds h => by
    rcases get_set h with ⟨_, z⟩ | ⟨n, z⟩
    · cases z
    · obtain ⟨p, dx, vs, k1, k2⟩ := s.slf j c ns ds z
      exact ⟨p, dx, vs, by rw [back n]; exact k1, k2⟩, fun j x h => by
    rcases get_set h with ⟨_, z⟩ | ⟨n, z⟩
    · cases z
    · obtain ⟨a, cls, d, q1, q2, q3⟩ := s.exc j x z
      exact ⟨a, cls, d, q1, by rw [back n]; exact q2, q3⟩⟩
  · rcases get_set h with ⟨e, z⟩ | ⟨n, z⟩
    · subst e
      cases z
      exact ⟨v, List.getElem?_set_self (by omega), r⟩
    · obtain ⟨w, k1, k2⟩ := s.val j d' z
      exact ⟨w, by rw [back n]; exact k1, k2⟩
  · rcases other h with ⟨_, z⟩ | ⟨n, z⟩
    · cases z
    · obtain ⟨p, vs, k1, k2⟩ := s.own j xs z
      exact ⟨p, vs, by rw [back n]; exact k1, k2⟩
  · rcases other h with ⟨_, z⟩ | ⟨n, z⟩
    · cases z
    · obtain ⟨p, vs, k1, k2⟩ := s.bor j xs z
      exact ⟨p, vs, by rw [back n]; exact k1, k2⟩
  · have f : ∀ {j : Nat} {xs : List D}, ((st.set i (some (.val d)))[j]? = some (some (.own xs)) ∨ (st.set i (some (.val d)))[j]? = some (some (.bor xs))) → j ≠ i ∧ (st[j]? = some (some (.own xs)) ∨ st[j]? = some (some (.bor xs))) := fun {j xs} h => by
      rcases h with h | h
      · rcases other h with ⟨_, z⟩ | ⟨n, z⟩
        · cases z
        · exact ⟨n, .inl z⟩
      · rcases other h with ⟨_, z⟩ | ⟨n, z⟩
        · cases z
        · exact ⟨n, .inr z⟩
    obtain ⟨n1, g1⟩ := f h1
    obtain ⟨n2, g2⟩ := f h2
    rw [back n1] at h3
    rw [back n2] at h4
    exact s.sep j k xs ys p g1 g2 h3 h4
theorem SR.setOwn {i : Nat} {xs : List D} {p : Addr} {vs : List V} (s : SR K E F H st σ) (hi : i < st.length) (hF : F p = none) (hH : H p = some (.lst vs)) (r : RepL K F xs vs) (hn : ¬ OwnAt st σ p) (h0 : E.H0 p = none) :
    SR K E F H (st.set i (some (.own xs))) (σ.set i (some (.ref p))) := by
  have hl := s.len
  have back : ∀ {j : Nat}, j ≠ i → (σ.set i (some (.ref p)))[j]? = σ[j]? := fun {j} n => List.getElem?_set_ne fun z => n z.symm
  refine ⟨by rw [List.length_set, List.length_set]; exact hl, s.ex, fun j d' h => ?_, fun j ys h => ?_, fun j ys h => ?_, fun j k ys zs q h1 h2 h3 h4 => ?_, s.fF, s.fE, s.fH, s.fB, fun j c ns ds h => by
    rcases get_set h with ⟨_, z⟩ | ⟨n, z⟩
    · cases z
    · obtain ⟨p', dx, vs', k1, k2⟩ := s.slf j c ns ds z
      exact ⟨p', dx, vs', by rw [back n]; exact k1, k2⟩, fun j x h => by
    rcases get_set h with ⟨_, z⟩ | ⟨n, z⟩
    · cases z
    · obtain ⟨a, cls, d, q1, q2, q3⟩ := s.exc j x z
      exact ⟨a, cls, d, q1, by rw [back n]; exact q2, q3⟩⟩
  · rcases get_set h with ⟨e, z⟩ | ⟨n, z⟩
    · cases z
    · obtain ⟨w, k1, k2⟩ := s.val j d' z
      exact ⟨w, by rw [back n]; exact k1, k2⟩
  · rcases get_set h with ⟨e, z⟩ | ⟨n, z⟩
    · cases z
      rw [e]
      exact ⟨p, vs, List.getElem?_set_self (by omega), hF, hH, r, h0⟩
    · obtain ⟨p', vs', k1, k2⟩ := s.own j ys z
      exact ⟨p', vs', by rw [back n]; exact k1, k2⟩
  · rcases get_set h with ⟨e, z⟩ | ⟨n, z⟩
    · cases z
    · obtain ⟨p', vs', k1, k2⟩ := s.bor j ys z
      exact ⟨p', vs', by rw [back n]; exact k1, k2⟩
  · have f : ∀ {j : Nat} {ys : List D}, ((st.set i (some (.own xs)))[j]? = some (some (.own ys)) ∨ (st.set i (some (.own xs)))[j]? = some (some (.bor ys))) → j = i ∨ (j ≠ i ∧ (st[j]? = some (some (.own ys)) ∨ st[j]? = some (some (.bor ys)))) := fun {j ys} h => by
      rcases h with h | h
      · rcases get_set h with ⟨e, z⟩ | ⟨n, z⟩
        · exact .inl e
        · exact .inr ⟨n, .inl z⟩
      · rcases get_set h with ⟨e, z⟩ | ⟨n, z⟩
        · exact .inl e
        · exact .inr ⟨n, .inr z⟩
    rcases f h1 with e1 | ⟨n1, g1⟩ <;> rcases f h2 with e2 | ⟨n2, g2⟩
    · rw [e1, e2]
    · subst e1
      rw [List.getElem?_set_self (by omega)] at h3
      cases h3
      rw [back n2] at h4
      exact absurd ⟨k, zs, g2, h4⟩ hn
    · subst e2
      rw [List.getElem?_set_self (by omega)] at h4
      cases h4
      rw [back n1] at h3
      exact absurd ⟨j, ys, g1, h3⟩ hn
    · rw [back n1] at h3
      rw [back n2] at h4
      exact s.sep j k ys zs q g1 g2 h3 h4
end
/-- name = value -/
def asg (i : Nat) (r : R) (st : DSt) : Option DSt := if i < st.length then (match r with
  | .tmp xs => some (st.set i (some (.own xs)))
  | r => match frz1 r st with
    | some (d, st') => some (st'.set i (some (.val d)))
    | none => none) else none
theorem frz1_len {r : R} {st st' : DSt} {d : D} (h : frz1 r st = some (d, st')) : st'.length = st.length := by
  unfold frz1 at h
  split at h
  · cases h
    rfl
  · cases h
    rfl
  · split at h
    · cases h
      rfl
    · cases h
      rw [List.length_set]
    · cases h
theorem asg_ok {K : PySem.W.Frag} {E : Ent} {B F H : Hp} {st st' : DSt} {σ : L2.St} {i : Nat} {r : R} {v : V} (s : SR K E F H st σ) (h : RR K E B F H st σ r v) (e : asg i r st = some st') :
    ∃ F', SR K E F' H st' (σ.set i (some v)) ∧ Same F F' := by
  unfold asg at e
  split at e
  · rename_i hi
    split at e
    · rename_i xs
      cases e
      obtain ⟨p, vs, rfl, e2, e3, e4, e5, e6, _⟩ := h
      exact ⟨F, s.setOwn hi e2 e3 e4 e5 e6, Same.refl F⟩
    · split at e
      · rename_i d st1 e1
        cases e
        obtain ⟨F1, f1, r1⟩ := frz1_ok s h e1
        exact ⟨F1, f1.sr.setVal (by rw [frz1_len e1]; exact hi) r1, f1.ex⟩
      · cases e
  · cases e
def dSet (i : Nat) (f : DX) : DS := toFl f fun r st => match asg i r st with
  | some st' => .nx st'
  | none => .bad
section
variable {X : Cx} {W : WX} {a b : Expr} {fa fb : DX} {pos : Pos}
theorem rd_set {K : PySem.W.Frag} {i : Nat} {D : Ends} {σ : L2.St} {H : Hp} (q : RdS K W (dSet i fa) D σ H) : tAsg (RdE K W fa) (gName i) D σ H := by
  obtain ⟨E, F, st, s, q⟩ := q
  refine Rd.part s q fun v F1 H1 st1 r s1 p1 h1 q1 => ?_
  split at q1
  · rename_i st2 e
    obtain ⟨F2, s2, x2⟩ := asg_ok s1 h1 e
    exact q1 _ F2 H1 s2 x2
  · exact q1.elim
theorem ds_set {i : Nat} {x : Str} {pos' : Pos} (hN : X.N.Nodup) (hi : X.N[i]? = some x) (hx : Loc X.env.scope x) (h : DE X W a fa) (hs : swapsWith a (some (.Name x pos')) pos.line X.env = pure false := by rfl)
    (hf : X.fn x = true ∨ X.env.scope.names.lookup x = some .local := by first | exact .inl rfl | exact .inr rfl | assumption) : DSj X W (.Assign [.Name x pos'] a pos) (dSet i fa) :=
  ⟨ps_imp (ps_set hN hi hx h.pe hs hf) fun D σ H q => rd_set q⟩
/-! targets: a name, names -/
inductive Tgt where
  | nm (i : Nat) | tp (is : List Nat)
def asgAll : List Nat → List D → DSt → Option DSt
  | [], [], st => some st
  | i :: is, d :: ds, st => if i < st.length then asgAll is ds (st.set i (some (.val d))) else none
  | _, _, _ => none
def Tgt.slots : Tgt → List Nat
  | .nm i => [i]
  | .tp is => is
def asgT : Tgt → D → DSt → Option DSt
  | .nm i, d, st => if i < st.length then some (st.set i (some (.val d))) else none
  | .tp is, .tup ds, st => asgAll is ds st
  | .tp _, _, _ => none
def RdG (K : PySem.W.Frag) (t : Tgt) : TG := fun v σ H Q => ∃ E F st d, SR K E F H st σ ∧ Rep K F d v ∧ match asgT t d st with
  | some st' => ∀ σ', SR K E F H st' σ' → (∀ j, j ∉ t.slots → σ'[j]? = σ[j]?) → Q σ' H
  | none => False
def RdGs (K : PySem.W.Frag) (is : List Nat) : TGs := fun vs σ H Q => ∃ E F st ds, SR K E F H st σ ∧ RepL K F ds vs ∧ match asgAll is ds st with
  | some st' => ∀ σ', SR K E F H st' σ' → (∀ j, j ∉ is → σ'[j]? = σ[j]?) → Q σ' H
  | none => False
structure DG (X : Cx) (tg : Expr) (t : Tgt) : Prop where
  pg : PG X tg (RdG X.K t)
structure DGs (X : Cx) (tgs : List Expr) (is : List Nat) : Prop where
  pg : PGs X tgs (RdGs X.K is)
theorem pg_imp {X : Cx} {e : Expr} {t t' : TG} (h : PG X e t) (i : ∀ v σ H Q, t' v σ H Q → t v σ H Q) : PG X e t' := ⟨fun pins s σ H v u Q I r q => h.run pins s σ H v u Q I r (i v σ H Q q)⟩
theorem pgs_imp {X : Cx} {e : List Expr} {t t' : TGs} (h : PGs X e t) (i : ∀ v σ H Q, t' v σ H Q → t v σ H Q) : PGs X e t' := ⟨fun pins s σ H v u Q I r q => h.run pins s σ H v u Q I r (i v σ H Q q)⟩
theorem rdg_name {K : PySem.W.Frag} {i : Nat} {v : V} {σ : L2.St} {H : Hp} {Q : L2.St → Hp → Prop} (q : RdG K (.nm i) v σ H Q) : gName i v σ H Q := by
  obtain ⟨E, F, st, d, s, r, q⟩ := q
  simp only [asgT] at q
  split at q
  · rename_i st' e
    split at e
    · rename_i hi
      cases e
      exact q _ (s.setVal hi r) fun j hj => List.getElem?_set_ne fun z => hj (by simp [Tgt.slots, z])
    · cases e
  · exact q.elim
theorem dg_name {i : Nat} (h : PG X a (gName i)) : DG X a (.nm i) := ⟨pg_imp h fun v σ H Q q => rdg_name q⟩
theorem dgs_nil : DGs X [] [] := ⟨pgs_imp pgs_nil fun vs σ H Q ⟨E, F, st, ds, s, r, q⟩ => by
  cases ds with
  | nil => exact ⟨repL_nil.mp r, q σ s fun _ _ => rfl⟩
  | cons d ds => exact q.elim⟩
theorem dgs_cons {i : Nat} {is : List Nat} {es : List Expr} (h1 : PG X a (gName i)) (h2 : DGs X es is) (hs : (assignEach (a :: es) X.env).map (·.2) = assign a X.env :: (assignEach es X.env).map (·.2) := by rfl) : DGs X (a :: es) (i :: is) :=
  ⟨pgs_imp (pgs_cons h1 h2.pg hs) fun vs σ H Q ⟨E, F, st, ds, s, r, q⟩ => by
    cases ds with
    | nil => exact q.elim
    | cons d ds =>
      obtain ⟨v, ws, rfl, r1, r2⟩ := repL_cons.mp r
      simp only [asgAll] at q
      split at q
      · rename_i st' e
        split at e
        · rename_i hi
          refine ⟨v, ws, rfl, E, F, _, ds, s.setVal hi r1, r2, ?_⟩
          rw [e]
          exact fun σ' s' k => q σ' s' fun j hj => by
            simp only [List.mem_cons, not_or] at hj
            rw [k j hj.2]
            exact List.getElem?_set_ne fun z => hj.1 z.symm
        · cases e
      · exact q.elim⟩
theorem asgAll_len : ∀ {is : List Nat} {ds : List D} {st st' : DSt}, asgAll is ds st = some st' → ds.length = is.length
  | [], [], _, _, _ => rfl
  | [], _ :: _, _, _, h => by simp [asgAll] at h
  | _ :: _, [], _, _, h => by simp [asgAll] at h
  | i :: is, d :: ds, st, st', h => by
    simp only [asgAll] at h
    split at h
    · have := asgAll_len h
      simp [this]
    · cases h
theorem dg_tup {is : List Nat} {es : List Expr} {k : Nat} (hc : X.calm = true) (h : DGs X es is) (hn : (assignEach es X.env).length = is.length := by rfl) (hst : (assignEach es X.env).findIdx? (·.1) = none := by rfl) : DG X (.Tuple es k pos) (.tp is) := by
  refine ⟨pg_imp (pg_tup hc h.pg hn hst) fun v σ H Q ⟨E, F, st, d, s, r, q⟩ => ?_⟩
  cases d with
  | tup ds =>
    simp only [Rep] at r
    obtain ⟨p, vs, rfl, r1, r2⟩ := r
    simp only [asgT] at q
    split at q
    · rename_i st' e
      refine ⟨p, vs, rfl, sqT_mono s.ex r1, by rw [← r2.length]; exact asgAll_len e, E, F, st, ds, s, r2, ?_⟩
      rw [e]
      exact q
    · exact q.elim
  | _ => simp only [asgT] at q
/-- a, b = e -/
def dSetT (t : Tgt) (f : DX) : DS := toFl f fun r st => match look st r with
  | some (.tup ds) => (match asgT t (.tup ds) st with
    | some st' => .nx st'
    | none => .bad)
  | _ => .bad
theorem ds_setT {t : Tgt} {tg : Expr} (hg : DG X tg t) (h : DE X W a fa) (hs : swapsWithSole [tg] a pos.line X.env = pure false := by rfl) (hw : swappedStores [tg] a X.env = pure none := by rfl) (h1 : (assignEach [tg] X.env).map (·.2) = [assign tg X.env] := by rfl) : DSj X W (.Assign [tg] a pos) (dSetT t fa) := by
  refine ⟨ps_imp (ps_asg h.pe hg.pg hs hw h1) fun D σ H ⟨E, F, st, s, q⟩ => Rd.part s q fun v F1 H1 st1 r s1 p1 h1 q1 => ?_⟩
  split at q1
  · rename_i ds e
    split at q1
    · rename_i st2 e2
      refine ⟨E, F1, st1, .tup ds, s1, notlst_val s1 h1 e (fun _ z => nomatch z), ?_⟩
      rw [e2]
      exact fun σ' s' _ => q1 σ' F1 H1 s' (Same.refl F1)
    · exact q1.elim
  · exact q1.elim
end
end Dl

namespace Dl
open PySem L2 PySem.Spec PyProof.Rows
variable [ExI]
/-! ### own and borrowed lists change -/
def getC (st : DSt) (k : Nat) : Option (List D) := match st[k]? with
  | some (some (.own xs)) => some xs
  | some (some (.bor xs)) => some xs
  | _ => none
def setC (st : DSt) (k : Nat) (ys : List D) : DSt := match st[k]? with
  | some (some (.own _)) => st.set k (some (.own ys))
  | some (some (.bor _)) => st.set k (some (.bor ys))
  | _ => st
section
variable {K : PySem.W.Frag} {E : Ent} {F H : Hp} {st : DSt} {σ : L2.St}
theorem getC_cases {k : Nat} {xs : List D} (h : getC st k = some xs) : (st[k]? = some (some (.own xs)) ∧ ∀ ys, setC st k ys = st.set k (some (.own ys))) ∨ (st[k]? = some (some (.bor xs)) ∧ ∀ ys, setC st k ys = st.set k (some (.bor ys))) := by
  unfold getC at h
  split at h
  · rename_i zs e
    cases h
    exact .inl ⟨e, fun ys => by unfold setC; rw [e]⟩
  · rename_i zs e
    cases h
    exact .inr ⟨e, fun ys => by unfold setC; rw [e]⟩
  · cases h
theorem set_get_ne {α : Type} {l : List α} {i j : Nat} {x : α} (h : j ≠ i) : (l.set i x)[j]? = l[j]? := List.getElem?_set_ne fun z => h z.symm
theorem SR.mut {k : Nat} {xs : List D} (s : SR K E F H st σ) (e : getC st k = some xs) : ∃ p vs, σ[k]? = some (some (.ref p)) ∧ F p = none ∧ H p = some (.lst vs) ∧ RepL K F xs vs ∧ OwnAt st σ p ∧
    ∀ ys ws, RepL K F ys ws → SR K E F (upd H p (.lst ws)) (setC st k ys) σ ∧ Stp F H st σ F (upd H p (.lst ws)) (setC st k ys) := by
  have main : ∀ (c : List D → S), (c = S.own ∨ c = S.bor) → st[k]? = some (some (c xs)) → (∀ ys, setC st k ys = st.set k (some (c ys))) → ∀ p vs, σ[k]? = some (some (.ref p)) → F p = none → H p = some (.lst vs) → RepL K F xs vs →
      ∀ ys ws, RepL K F ys ws → SR K E F (upd H p (.lst ws)) (setC st k ys) σ ∧ Stp F H st σ F (upd H p (.lst ws)) (setC st k ys) := by
    intro c hc e1 e2 p vs q1 q2 q3 q4 ys ws r
    rw [e2 ys]
    have kl : k < st.length := (List.getElem?_eq_some_iff.mp e1).1
    have isown : st[k]? = some (some (.own xs)) ∨ st[k]? = some (some (.bor xs)) := by
      rcases hc with rfl | rfl
      · exact .inl e1
      · exact .inr e1
    have ownp : OwnAt st σ p := ⟨k, xs, isown, q1⟩
    have ownB : ∀ {j : Nat} {zs : List D}, ((st.set k (some (c ys)))[j]? = some (some (.own zs)) ∨ (st.set k (some (c ys)))[j]? = some (some (.bor zs))) → ∃ zs', st[j]? = some (some (.own zs')) ∨ st[j]? = some (some (.bor zs')) := fun {j zs} h => by
      by_cases n : j = k
      · rw [n]
        exact ⟨xs, isown⟩
      · rw [set_get_ne n] at h
        exact ⟨zs, h⟩
    have apart : ∀ {j : Nat} {zs : List D} {q : Addr}, j ≠ k → (st[j]? = some (some (.own zs)) ∨ st[j]? = some (some (.bor zs))) → σ[j]? = some (some (.ref q)) → q ≠ p := fun {j zs q} n a b z => n (s.sep j k zs xs p a isown (by rw [← z]; exact b) q1)
    constructor
    · refine ⟨by rw [List.length_set]; exact s.len, fun a u z => ?_, fun j d z => ?_, fun j zs z => ?_, fun j zs z => ?_, fun j l zs us q a b y w => ?_, s.fF, s.fE, fun a u z n => ?_, fun j q z => ?_, fun j c' ns ds h => s.slf j c' ns ds (by rcases get_set h with ⟨_, y⟩ | ⟨_, y⟩; (rcases hc with rfl | rfl <;> cases y); exact y), fun j x h => s.exc j x (by rcases get_set h with ⟨_, y⟩ | ⟨_, y⟩; (rcases hc with rfl | rfl <;> cases y); exact y)⟩
      · have na : a ≠ p := fun y => by rw [y, q2] at z; cases z
        rw [upd_ne na]
        exact s.ex a u z
      · rcases get_set z with ⟨_, y⟩ | ⟨n, y⟩
        · rcases hc with rfl | rfl <;> cases y
        · exact s.val j d y
      · rcases get_set z with ⟨e3, y⟩ | ⟨n, y⟩
        · rcases hc with rfl | rfl
          · cases y
            rw [e3]
            obtain ⟨p', vs', k1, _, _, _, k5⟩ := s.own k xs e1
            rw [q1] at k1
            cases k1
            exact ⟨p, ws, q1, q2, upd_same, r, k5⟩
          · cases y
        · obtain ⟨p', vs', k1, k2, k3, k4, k5⟩ := s.own j zs y
          exact ⟨p', vs', k1, k2, by rw [upd_ne (apart n (.inl y) k1)]; exact k3, k4, k5⟩
      · rcases get_set z with ⟨e3, y⟩ | ⟨n, y⟩
        · rcases hc with rfl | rfl
          · cases y
          · cases y
            rw [e3]
            obtain ⟨p', vs', k1, _, _, _, k5⟩ := s.bor k xs e1
            rw [q1] at k1
            cases k1
            exact ⟨p, ws, q1, q2, upd_same, r, k5⟩
        · obtain ⟨p', vs', k1, k2, k3, k4, k5⟩ := s.bor j zs y
          exact ⟨p', vs', k1, k2, by rw [upd_ne (apart n (.inr y) k1)]; exact k3, k4, k5⟩
      · obtain ⟨zs', a'⟩ := ownB a
        obtain ⟨us', b'⟩ := ownB b
        exact s.sep j l zs' us' q a' b' y w
      · have na : a ≠ p := fun y => by
          subst y
          rcases hc with rfl | rfl
          · obtain ⟨p', vs', k1, _, _, _, k5⟩ := s.own k xs e1
            rw [q1] at k1
            cases k1
            rw [k5] at z
            cases z
          · obtain ⟨p', vs', k1, _, _, _, k5⟩ := s.bor k xs e1
            rw [q1] at k1
            cases k1
            exact n k k5
        rw [upd_ne na]
        exact s.fH a u z n
      · unfold upd
        split
        · exact fun y => nomatch y
        · exact s.fB j q z
    · refine ⟨Same.refl F, fun a u z n => ⟨?_, rfl⟩, fun q ⟨j, zs, a, b⟩ => ?_, fun j u z => ?_, fun a z => ?_⟩
      · rw [upd_ne (fun y => n (by rw [y]; exact ownp))]
        exact z
      · obtain ⟨zs', a'⟩ := ownB a
        exact ⟨j, zs', a', b⟩
      · by_cases n : j = k
        · rw [n]
          exact ⟨_, List.getElem?_set_self kl⟩
        · exact ⟨u, by rw [set_get_ne n]; exact z⟩
      · unfold upd at z
        split at z
        · cases z
        · exact z
  rcases getC_cases e with ⟨e1, e2⟩ | ⟨e1, e2⟩
  · obtain ⟨p, vs, q1, q2, q3, q4, q5⟩ := s.own k xs e1
    exact ⟨p, vs, q1, q2, q3, q4, ⟨k, xs, .inl e1, q1⟩, main S.own (.inl rfl) e1 e2 p vs q1 q2 q3 q4⟩
  · obtain ⟨p, vs, q1, q2, q3, q4, q5⟩ := s.bor k xs e1
    exact ⟨p, vs, q1, q2, q3, q4, ⟨k, xs, .inr e1, q1⟩, main S.bor (.inr rfl) e1 e2 p vs q1 q2 q3 q4⟩
end
/-! x.append(e) -/
def appOp (k : Nat) (r : R) (st : DSt) : Out R := match frz1 r st with
  | some (d, st1) => (match getC st1 k with
    | some xs => if xs.length < lim then .ok (.val .non) (setC st1 k (xs ++ [d])) else .bad
    | none => .bad)
  | none => .bad
def dApp (k : Nat) (f : DX) : DX := fun st => match getC st k with
  | some _ => bnd f (appOp k) st
  | none => .bad
section
variable {X : Cx} {W : WX} {a b : Expr} {fa fb : DX} {pos : Pos}
theorem de_app {k : Nat} {o : Expr} {apos : Pos} (ho : PE X o (tVar k)) (ha : DE X W a fa) (hbase : attributeBase o "append" X.env (eval o X.env) = eval o X.env := by rfl)
    (hfew : ((backTo pos (starEach [a] X.env)).all (fun x => !x.1) && (backToKw pos (keywordEach [] X.env)).all (fun x => x.1.isSome)
      && decide ([a].length + ([] : List Keyword).length + (if ([] : List Keyword).isEmpty then 0 else 1) < 30)) = true := by rfl)
    (hline : (apos.endLine == pos.line) = true := by rfl) (hs : starEach [a] X.env = (false, eval a X.env) :: starEach [] X.env := by rfl) : DE X W (.Call (.Attribute o "append" apos) [a] [] pos) (dApp k fa) := by
  refine ⟨pe_imp (pe_bm PySem.F.plainAttrs_list PySem.F.slot_list_append PySem.F.type_list_append mt_append ho (pa_cons ha.pe pa_nil hs) hbase hfew hline hs rfl) fun σ H Q ⟨E, F, st, s, q⟩ => ?_⟩
  unfold dApp at q
  split at q
  · rename_i xs0 e0
    obtain ⟨p, vs, q1, q2, q3, q4, q5, _⟩ := s.mut e0
    refine ⟨.ref p, q1, .inl ⟨rfl, vs, SqL.of q3⟩, Rd.first s q fun v F1 H1 st1 r1 s1 p1 h1 c1 => ?_⟩
    unfold appOp at c1
    split at c1
    · rename_i d st2 e2
      split at c1
      · rename_i xs e3
        split at c1
        · rename_i hz
          obtain ⟨F2, f2, r2⟩ := frz1_ok s1 h1 e2
          obtain ⟨p', ws, k1, k2, k3, k4, k5, k6⟩ := f2.sr.mut e3
          rw [q1] at k1
          cases k1
          obtain ⟨s3, p3⟩ := k6 (xs ++ [d]) (ws ++ [v]) (k4.append (RepL.one r2))
          exact ⟨p, ws, v, rfl, rfl, k3, by rw [← k4.length]; exact lim_lt hz, c1 .non F2 _ s3 ((f2.stp p1).trans p3) (by simp only [RR, Rep])⟩
        · exact c1.elim
      · exact c1.elim
    · exact c1.elim
  · exact q.elim
/-! x[i] = e -/
def setOp (k : Nat) (r ri : R) (st : DSt) : Fl := match frz1 r st with
  | some (d, st1) => (match getC st1 k, look st1 ri with
    | some xs, some (.int i) => (match ixN xs.length i with
      | some j => .nx (setC st1 k (xs.set j d))
      | none => .bad)
    | _, _ => .bad)
  | none => .bad
def dSetIx (k : Nat) (fi fe : DX) : DS := toFl fe fun r st => match getC st k with
  | some _ => toFl fi (fun ri => setOp k r ri) st
  | none => .bad
theorem look_frz {K : PySem.W.Frag} {E : Ent} {B F H F' : Hp} {st st' : DSt} {σ : L2.St} {r r2 : R} {v w : V} {i : Int} (f : Frzn K E B F H st σ F' st' r v) (h : RR K E B F H st σ r2 w) (e : look st' r2 = some (.int i)) : w = .int i := by
  cases r2 with
  | val d =>
    simp only [look, Option.some.injEq] at e
    subst e
    have : Rep K F (.int i) w := h
    simpa only [Rep] using this
  | «at» j =>
    obtain ⟨h1, _⟩ := h
    rcases look_at e with z | ⟨ys, z, _⟩
    · obtain ⟨u, k1, k2⟩ := f.sr.val j _ z
      rw [h1] at k1
      cases k1
      simpa only [Rep] using k2
    · cases z
  | tmp ys => simp [look] at e
theorem ds_setIx {k : Nat} {o : Expr} {spos : Pos} (ho : PE X o (tVar k)) (hi : DE X W b fb) (he : DE X W a fa) (hs : swapsWithSole [.Subscript o b spos] a pos.line X.env = pure false := by rfl) (hw : swappedStores [.Subscript o b spos] a X.env = pure none := by rfl)
    (hsub : ∀ v, assign (.Subscript o b spos) X.env v = (do
      let ov ← holding [v] (eval o X.env)
      let iv ← holding [v, ov] (eval b X.env)
      standAt spos
      holding [v, ov, iv] (setItem ov iv v)
      release [v, ov, iv] []) := by intro _; rfl)
    (h1 : (assignEach [.Subscript o b spos] X.env).map (·.2) = [assign (.Subscript o b spos) X.env] := by rfl) : DSj X W (.Assign [.Subscript o b spos] a pos) (dSetIx k fb fa) := by
  refine ⟨ps_imp (ps_asg he.pe (pg_sub ho hi.pe set_list hsub) hs hw h1) fun D σ H ⟨E, F, st, s, q⟩ => Rd.part s q fun v F1 H1 st1 r s1 p1 h1 q1 => ?_⟩
  split at q1
  · rename_i xs0 e0
    obtain ⟨p, vs, k1, k2, k3, k4, k5, _⟩ := s1.mut e0
    refine ⟨.ref p, k1, Rd.part s1 q1 fun w F2 H2 st2 ri s2 p2 h2 q2 => ?_⟩
    unfold setOp at q2
    split at q2
    · rename_i d st3 e3
      have hr := h1.step p2
      obtain ⟨F3, f3, r3⟩ := frz1_ok s2 hr e3
      split at q2
      · rename_i xs i e4 e5
        split at q2
        · rename_i j e6
          obtain ⟨p', ws, m1, m2, m3, m4, m5, m6⟩ := f3.sr.mut e4
          rw [k1] at m1
          cases m1
          obtain ⟨s4, p4⟩ := m6 (xs.set j d) (ws.set j v) (m4.set j r3)
          have ew : w = .int i := look_frz f3 (h2.base p1.live) e5
          subst ew
          exact ⟨p, ws, i, j, rfl, rfl, m3, by rw [← m4.length]; exact e6, q2 σ F3 _ s4 f3.ex⟩
        · exact q2.elim
      · exact q2.elim
    · exact q2.elim
  · exact q1.elim
/-! x += e, of ints -/
def dAug (i : Nat) (g : Int → Int → Int) (f : DX) : DS := fun st => match st[i]? with
  | some (some (.val (.int x))) => toFl f (fun r st1 => match look st1 r with
    | some (.int y) => if i < st1.length then .nx (st1.set i (some (.val (.int (g x y))))) else .bad
    | _ => .bad) st
  | _ => .bad
theorem ds_aug {i : Nat} {x : Str} {o : Operator} {g : Int → Int → Int} {pos' : Pos} (hN : X.N.Nodup) (hi : X.N[i]? = some x) (hx : Loc X.env.scope x) (h : DE X W a fa) (ho : PIp X o (ipI g))
    (hf : X.fn x = true ∨ X.env.scope.names.lookup x = some .local := by first | exact .inl rfl | exact .inr rfl | assumption) : DSj X W (.AugAssign (.Name x pos') o a pos) (dAug i g fa) := by
  refine ⟨ps_imp (ps_aug hN hi hx h.pe ho hf) fun D σ H ⟨E, F, st, s, q⟩ => ?_⟩
  unfold dAug at q
  split at q
  · rename_i n e
    obtain ⟨v, k1, k2⟩ := s.val i _ e
    simp only [Rep] at k2
    subst k2
    refine ⟨_, k1, Rd.part s q fun w F1 H1 st1 r s1 p1 h1 q1 => ?_⟩
    split at q1
    · rename_i m e2
      split at q1
      · rename_i hl
        rw [look_int s1 h1 e2]
        exact ⟨n, m, rfl, rfl, q1 _ F1 H1 (s1.setVal hl (by simp only [Rep])) (Same.refl F1)⟩
      · exact q1.elim
    · exact q1.elim
  · exact q.elim
end
/-! ### what is walked -/
def YldD (K : PySem.W.Frag) (F H : Hp) (x : V) (H' : Hp) (d : D) : Prop := (H' = H ∧ Rep K F d x) ∨ (∃ T vs ds, x = .ref T ∧ H T = none ∧ H' = upd H T (.tup vs) ∧ d = .tup ds ∧ RepL K F ds vs)
/-- J walks the data xs as long as F stands -/
def WD (K : PySem.W.Frag) (F : Hp) (J : It) (xs : List D) : Prop := ∃ Y, Walk J xs.length (fun H => Same F H) Y ∧ ∀ i H x H', i < xs.length → Y i H x H' → ∃ d, xs[i]? = some d ∧ YldD K F H x H' d
abbrev DIt := DSt → Out (List D)
def RdI (K : PySem.W.Frag) (W : WX) (f : DIt) : TI := fun σ H R => ∃ E F st, SR K E F H st σ ∧ match f st with
  | .ok xs st' => ∀ J F' H', SR K E F' H' st' σ → Stp F H st σ F' H' st' → WD K F' J xs → R J H'
  | .exc x st' => ∀ c d F' H', SR K E F' H' st' σ → Stp F H st σ F' H' st' → XR K F' x c d → W c d σ H'
  | .bad => False
structure DI (X : Cx) (W : WX) (tg iter : Expr) (f : DIt) : Prop where
  pi : PI X tg iter (RdI X.K W f)
theorem pi_imp {X : Cx} {tg e : Expr} {t t' : TI} (h : PI X tg e t) (i : ∀ σ H Q, t' σ H Q → t σ H Q) : PI X tg e t' := ⟨fun pins s σ H Q I q => h.run pins s σ H Q I (i σ H Q q)⟩
section
variable {X : Cx} {W : WX} {a b tg : Expr} {fa fb : DX} {pos : Pos} {p : Pos}
theorem RdI.part {K : PySem.W.Frag} {α β : Type} {rel : Rel α β} {f : DSt → Out α} {g : α → DSt → Out (List D)} {σ : L2.St} {H : Hp} {R : It → Hp → Prop} {q : β → Hp → Prop} (h : RdI K W (bnd f g) σ H R)
    (k : ∀ E F st b F1 H1 st1 a, SR K E F1 H1 st1 σ → Stp F H st σ F1 H1 st1 → rel E H F1 H1 st1 σ a b → (match g a st1 with
      | .ok xs st' => ∀ J F' H', SR K E F' H' st' σ → Stp F H st σ F' H' st' → WD K F' J xs → R J H'
      | .exc x st' => ∀ c d F' H', SR K E F' H' st' σ → Stp F H st σ F' H' st' → XR K F' x c d → W c d σ H'
      | .bad => False) → q b H1) : Rd K W rel f σ H q := by
  obtain ⟨E, F, st, s, h⟩ := h
  refine ⟨E, F, st, s, ?_⟩
  unfold bnd at h
  cases e : f st with
  | ok a st' =>
    rw [e] at h
    exact fun b F' H' s' p' r => k E F st b F' H' st' a s' p' r h
  | exc x st' =>
    rw [e] at h
    exact h
  | bad =>
    rw [e] at h
    exact h
theorem wd_list {K : PySem.W.Frag} {F : Hp} {q : Addr} {xs : List D} {vs : List V} (h : F q = some (.lst vs)) (r : RepL K F xs vs) : WD K F (Itl K q) xs := by
  refine ⟨YAt vs, ?_, fun i H x H' hi ⟨e, hx⟩ => ?_⟩
  · rw [r.length]
    exact walk_list.mono (fun H hs => SqL.of (hs _ _ h)) fun i H x H' _ _ y => y
  · obtain ⟨d, k1, k2⟩ := r.getV hx
    exact ⟨d, k1, .inl ⟨e, k2⟩⟩
theorem wd_tup {K : PySem.W.Frag} {F : Hp} {q : Addr} {xs : List D} {vs : List V} (h : SqT K F q vs) (r : RepL K F xs vs) : WD K F (Itt K q) xs := by
  refine ⟨YAt vs, ?_, fun i H x H' hi ⟨e, hx⟩ => ?_⟩
  · rw [r.length]
    exact walk_tup.mono (fun H hs => sqT_mono hs h) fun i H x H' _ _ y => y
  · obtain ⟨d, k1, k2⟩ := r.getV hx
    exact ⟨d, k1, .inl ⟨e, k2⟩⟩
def chars (z : Str) : List D := z.cps.toList.map fun c => .str ⟨#[c]⟩
theorem wd_str {K : PySem.W.Frag} {F : Hp} {z : Str} : WD K F (Its z) (chars z) := by
  have hl : (chars z).length = z.cps.size := by simp [chars]
  refine ⟨fun i H v H' => H' = H ∧ ∃ c, z.cps[i]? = some c ∧ v = .str ⟨#[c]⟩, by rw [hl]; exact walk_str.mono (fun H _ => trivial) fun i H x H' _ _ y => y, fun i H x H' hi ⟨e, c, hc, hx⟩ => ?_⟩
  refine ⟨.str ⟨#[c]⟩, ?_, .inl ⟨e, by rw [hx]; simp only [Rep]⟩⟩
  simp only [chars, List.getElem?_map, Array.getElem?_toList, hc, Option.map_some]
/-- a list, a tuple, a text -/
def iAny (K : PySem.W.Frag) (tl : TE) : TI := fun σ H R => tl σ H fun x H1 => (∃ a, x = .ref a ∧ (∃ xs, SqL K H1 a xs) ∧ R (Itl K a) H1) ∨ (∃ a, x = .ref a ∧ (∃ xs, SqT K H1 a xs) ∧ R (Itt K a) H1) ∨ (∃ z, x = .str z ∧ R (Its z) H1)
theorem pi_any {l : Expr} {tl : TE} (hl : PE X l tl) : PI X tg l (iAny X.K tl) := by
  refine ⟨fun pins s σ H R I h => ?_⟩
  refine thn (hl.run pins s σ H _ I h) fun v s1 ⟨x, H1, I1, r1, q1⟩ => ?_
  rcases q1 with ⟨a, e, ⟨xs, hq⟩, q⟩ | ⟨a, e, ⟨xs, hq⟩, q⟩ | ⟨z, e, q⟩
  · subst e
    cases r1
    obtain ⟨its, rv, p, hz⟩ := I1.list hq
    refine wpAny_pyIter_list p.isList ?_
    refine ⟨s1.heap.objs.size, [s1.heap.objs.size], _, _, H1, rfl, I1.kept (t' := s1.toks) fun b o e => Heap.get?_push_of_some _ e, turn_list a _, ⟨_, Heap.get?_push_size _ rfl, rfl, rfl⟩, fun b hb => ?_, q⟩
    have e : b = s1.heap.objs.size := by simpa using hb
    subst e
    exact I1.fpOk (Nat.le_refl _) (I1.hok.fresh (Nat.le_refl _))
  · subst e
    cases r1
    obtain ⟨its, rv, p, hz⟩ := I1.tuple hq
    refine wpAny_pyIter_tuple (show s1.heap.IsTuple a its.toArray from p) ?_
    refine ⟨s1.heap.objs.size, [s1.heap.objs.size], _, _, H1, rfl, I1.kept (t' := s1.toks) fun b o e => Heap.get?_push_of_some _ e, turn_tuple a _, ⟨_, Heap.get?_push_size _ rfl, rfl, rfl⟩, fun b hb => ?_, q⟩
    have e : b = s1.heap.objs.size := by simpa using hb
    subst e
    exact I1.fpOk (Nat.le_refl _) (I1.hok.fresh (Nat.le_refl _))
  · subst e
    obtain ⟨t, rfl⟩ := r1
    cases ha : z.cps.all (· < 128)
    · exact wpAny_pyIter_wide ha (pi_one (tk := s1.toks) I1 _ (turn_str _ z t "str_iterator" (.inr rfl)) ⟨_, Heap.get?_push_size _ rfl, rfl, rfl⟩ q)
    · exact wpAny_pyIter_ascii ha (pi_one (tk := s1.toks) I1 _ (turn_str _ z t "str_ascii_iterator" (.inl rfl)) ⟨_, Heap.get?_push_size _ rfl, rfl, rfl⟩ q)
def itSeq (f : DX) : DIt := bnd f fun r st => match frz1 r st with
  | some (.lst xs, st') => .ok xs st'
  | some (.tup xs, st') => .ok xs st'
  | some (.str z, st') => .ok (chars z) st'
  | _ => .bad
theorem di_seq (h : DE X W a fa) : DI X W tg a (itSeq fa) := by
  refine ⟨pi_imp (pi_any h.pe) fun σ H R q => RdI.part q fun E F st v F1 H1 st1 r s1 p1 h1 q1 => ?_⟩
  cases e : frz1 r st1 with
  | none =>
    rw [e] at q1
    exact q1.elim
  | some dq =>
    obtain ⟨d, st2⟩ := dq
    rw [e] at q1
    obtain ⟨F2, f2, r2⟩ := frz1_ok s1 h1 e
    cases d with
    | lst xs =>
      simp only [Rep] at r2
      obtain ⟨p, vs, rfl, k1, k2⟩ := r2
      exact .inl ⟨p, rfl, ⟨vs, SqL.of (f2.sr.ex _ _ k1)⟩, q1 (Itl X.K p) F2 H1 f2.sr (f2.stp p1) (wd_list k1 k2)⟩
    | tup xs =>
      simp only [Rep] at r2
      obtain ⟨p, vs, rfl, k1, k2⟩ := r2
      exact .inr (.inl ⟨p, rfl, ⟨vs, sqT_mono f2.sr.ex k1⟩, q1 (Itt X.K p) F2 H1 f2.sr (f2.stp p1) (wd_tup k1 k2)⟩)
    | str z =>
      simp only [Rep] at r2
      subst r2
      exact .inr (.inr ⟨z, rfl, q1 (Its z) F2 H1 f2.sr (f2.stp p1) wd_str⟩)
    | _ => exact q1.elim
/-! range -/
def rngD (lo : Int) (n : Nat) : List D := (List.range n).map fun (i : Nat) => .int (lo + i)
theorem wd_rng {K : PySem.W.Frag} {F : Hp} {lo : Int} {n : Nat} : WD K F (Itr lo n) (rngD lo n) := by
  have hl : (rngD lo n).length = n := by simp [rngD]
  refine ⟨YFn fun (i : Nat) => .int (lo + i), by rw [hl]; exact walk_range.mono (fun H _ => trivial) fun i H x H' _ _ y => y, fun i H x H' hi ⟨e, hx⟩ => ⟨.int (lo + i), ?_, .inl ⟨e, by rw [hx]; simp only [Rep]⟩⟩⟩
  rw [hl] at hi
  simp [rngD, hi]
def smallI (i : Int) : Bool := Nat.blt i.natAbs 4611686018427387904
def itRng1 (g : DA) : DIt := bnd g fun rs st => match rs with
  | [r] => (match look st r with
    | some (.int n) => if smallI n then .ok (rngD 0 n.toNat) st else .bad
    | _ => .bad)
  | _ => .bad
def itRng2 (g : DA) : DIt := bnd g fun rs st => match rs with
  | [r, r'] => (match look st r, look st r' with
    | some (.int m), some (.int n) => if smallI m && smallI n then .ok (rngD m (n - m).toNat) st else .bad
    | _, _ => .bad)
  | _ => .bad
theorem small_of {i : Int} (h : smallI i = true) : -(2 ^ 62) ≤ i ∧ i < 2 ^ 62 := by
  have : i.natAbs < 4611686018427387904 := by simpa [smallI] using h
  omega
theorem di_rng1 {g : DA} (hg : Gl X "range") (hm : X.mg "range" = none) (ha : DAs X W [a] g) (hs : starEach [a] X.env = [(false, eval a X.env)] := by rfl) : DI X W tg (.Call (.Name "range" p) [a] [] pos) (itRng1 g) := by
  refine ⟨pi_imp (pi_range1 hg hm ha.pa hs) fun σ H R q => RdI.part q fun E F st vs F1 H1 st1 rs s1 p1 h1 q1 => ?_⟩
  match rs, vs, h1, q1 with
  | [r], _, ⟨.cons k .nil, _⟩, q1 =>
    simp only at q1
    cases e : look st1 r with
    | none =>
      rw [e] at q1
      exact q1.elim
    | some d =>
      rw [e] at q1
      cases d with
      | int n =>
        simp only at q1
        split at q1
        · rename_i xs st2 e2
          split at e2
          · rename_i hz
            cases e2
            obtain ⟨z1, z2⟩ := small_of hz
            rw [look_int s1 k e]
            exact ⟨n, rfl, z1, z2, q1 _ F1 H1 s1 p1 wd_rng⟩
          · cases e2
        · rename_i e2
          split at e2 <;> cases e2
        · exact q1.elim
      | _ => exact q1.elim
  | [], _, _, q1 => exact q1.elim
  | _ :: _ :: _, _, _, q1 => exact q1.elim
theorem di_rng2 {g : DA} (hg : Gl X "range") (hm : X.mg "range" = none) (ha : DAs X W [a, b] g) (hs : starEach [a, b] X.env = [(false, eval a X.env), (false, eval b X.env)] := by rfl) (hs2 : starEach [b] X.env = [(false, eval b X.env)] := by rfl) : DI X W tg (.Call (.Name "range" p) [a, b] [] pos) (itRng2 g) := by
  refine ⟨pi_imp (pi_range2 hg hm ha.pa hs hs2) fun σ H R q => RdI.part q fun E F st vs F1 H1 st1 rs s1 p1 h1 q1 => ?_⟩
  match rs, vs, h1, q1 with
  | [r, r'], _, ⟨.cons k (.cons k' .nil), _⟩, q1 =>
    simp only at q1
    cases e : look st1 r with
    | none =>
      rw [e] at q1
      exact q1.elim
    | some d =>
      cases e' : look st1 r' with
      | none =>
        rw [e, e'] at q1
        cases d <;> exact q1.elim
      | some d' =>
        rw [e, e'] at q1
        cases d with
        | int m =>
          cases d' with
          | int n =>
            simp only at q1
            split at q1
            · rename_i xs st2 e2
              split at e2
              · rename_i hz
                cases e2
                obtain ⟨hz1, hz2⟩ := Bool.and_eq_true_iff.mp hz
                obtain ⟨z1, z2⟩ := small_of hz1
                obtain ⟨z3, z4⟩ := small_of hz2
                rw [look_int s1 k e, look_int s1 k' e']
                exact ⟨m, n, rfl, ⟨z1, z2, z3, z4⟩, q1 _ F1 H1 s1 p1 wd_rng⟩
              · cases e2
            · rename_i e2
              split at e2 <;> cases e2
            · exact q1.elim
          | _ => exact q1.elim
        | _ => cases d' <;> exact q1.elim
  | [], _, _, q1 => exact q1.elim
  | [_], _, _, q1 => exact q1.elim
  | _ :: _ :: _ :: _, _, _, q1 => exact q1.elim
end
end Dl

namespace Dl
open PySem L2 PySem.Spec PyProof.Rows
variable [ExI]
/-! ### for -/
def loopD (t : Tgt) (body : DS) : List D → DSt → Fl
  | [], st => .nx st
  | d :: ds, st => match asgT t d st with
    | none => .bad
    | some st1 => match body st1 with
      | .nx st2 => loopD t body ds st2
      | .ct st2 => loopD t body ds st2
      | .bk st2 => .nx st2
      | .rt r st2 => .rt r st2
      | .exc x st2 => .exc x st2
      | .bad => .bad
def dFor (fi : DIt) (t : Tgt) (body : DS) : DS := toFl fi fun xs => loopD t body xs
section
variable {X : Cx} {W : WX} {tg iter c : Expr} {pos : Pos} {ss : List Stmt}
/-- what a turn's body is to reach -/
theorem loop_body {K : PySem.W.Frag} {E : Ent} {F' F1 : Hp} {t : Tgt} {fb : DS} {ds : List D} {st2 : DSt} {D : Ends} {Pn : L2.St → Hp → Prop} (e : Same F' F1)
    (c : ContS K W E F' (match fb st2 with
      | .nx st3 => loopD t fb ds st3
      | .ct st3 => loopD t fb ds st3
      | .bk st3 => .nx st3
      | .rt r st3 => .rt r st3
      | .exc x st3 => .exc x st3
      | .bad => .bad) D) (hP : ∀ st3 σ' F3 H3, SR K E F3 H3 st3 σ' → Same F' F3 → ContS K W E F' (loopD t fb ds st3) D → Pn σ' H3) :
    ContS K W E F1 (fb st2) { D with nx := Pn, ct := Pn, bk := D.nx } := by
  cases h : fb st2 with
  | nx st3 =>
    rw [h] at c
    exact fun σ' F3 H3 s3 e3 => hP st3 σ' F3 H3 s3 (e.trans e3) c
  | ct st3 =>
    rw [h] at c
    exact fun σ' F3 H3 s3 e3 => hP st3 σ' F3 H3 s3 (e.trans e3) c
  | bk st3 =>
    rw [h] at c
    exact fun σ' F3 H3 s3 e3 => c σ' F3 H3 s3 (e.trans e3)
  | rt r st3 =>
    rw [h] at c
    exact fun v σ' F3 H3 s3 e3 => c v σ' F3 H3 s3 (e.trans e3)
  | exc x st3 =>
    rw [h] at c
    exact fun cc d σ' F3 H3 s3 e3 => c cc d σ' F3 H3 s3 (e.trans e3)
  | bad =>
    rw [h] at c
    exact c
theorem yld_sr {K : PySem.W.Frag} {E : Ent} {F' F1 H H' : Hp} {st1 : DSt} {σ : L2.St} {x : V} {d : D} (y : YldD K F' H x H' d) (s : SR K E F1 H st1 σ) (e : Same F' F1) : ∃ F2, SR K E F2 H' st1 σ ∧ Same F1 F2 ∧ Rep K F2 d x ∧ Stp F1 H st1 σ F2 H' st1 := by
  rcases y with ⟨rfl, r⟩ | ⟨T, vs, ds, rfl, hT, rfl, rfl, r⟩
  · exact ⟨F1, s, Same.refl F1, Rep.mono e d r, Stp.refl _ _ _ _⟩
  · refine ⟨_, s.growF hT, (s.stpGrowF hT).ex, ?_, s.stpGrowF hT⟩
    simp only [Rep]
    exact ⟨T, vs, rfl, SqT.of upd_same, RepL.mono (e.trans (s.stpGrowF hT).ex) ds r⟩
theorem ds_for {fi : DIt} {t : Tgt} {fb : DS} (hp : PassesOwn (model X.prog X.w) X.A X.env X.xe) (hc : X.calm = true) (hi : DI X W tg iter fi) (hg : DG X tg t) (hb : DSs X W ss fb) (hs : ∀ x, foldedSetIterable iter X.env x = pure x := by intro _; rfl) :
    DSj X W (.For tg iter ss [] pos) (dFor fi t fb) := by
  refine ⟨ps_imp (ps_for hp hc hi.pi hg.pg hb.ps hs) fun D σ H ⟨E, F, st, s, q⟩ => ⟨E, F, st, s, ?_⟩⟩
  unfold dFor toFl at q
  cases e : fi st with
  | exc x st' =>
    rw [e] at q
    exact fun cc d F' H' s' p' r => q cc d σ F' H' s' p'.ex r
  | bad =>
    rw [e] at q
    exact q
  | ok xs st' =>
    rw [e] at q
    simp only at q
    intro J F' H' s' p' wd
    obtain ⟨Y, wk, hy⟩ := wd
    refine for_it wk (fun i σ1 H1 => ∃ F1 st1, SR X.K E F1 H1 st1 σ1 ∧ Same F' F1 ∧ ContS X.K W E F' (loopD t fb (xs.drop i) st1) D) ⟨F', st', s', Same.refl F', by rw [List.drop_zero]; exact q.shift p'.ex⟩ ?_ ?_ ?_
    · rintro i σ1 H1 _ ⟨F1, st1, s1, e1, _⟩
      exact e1.trans s1.ex
    · rintro i x σ1 H1 H2 hi2 ⟨F1, st1, s1, e1, c1⟩ y
      obtain ⟨d, hd, yl⟩ := hy i H1 x H2 hi2 y
      rw [List.drop_eq_getElem_cons hi2] at c1
      have hd' : xs[i] = d := by
        rw [List.getElem?_eq_getElem hi2] at hd
        exact Option.some.inj hd
      rw [hd'] at c1
      obtain ⟨F2, s2, e2, r2, _⟩ := yld_sr yl s1 e1
      refine ⟨E, F2, st1, d, s2, r2, ?_⟩
      simp only [loopD] at c1
      cases h : asgT t d st1 with
      | none =>
        rw [h] at c1
        exact c1
      | some st2 =>
        rw [h] at c1
        exact fun σ' s3 _ => ⟨E, F2, st2, s3, loop_body (e1.trans e2) c1 fun st3 σ4 F4 H4 s4 e4 c4 => ⟨F4, st3, s4, e4, c4⟩⟩
    · rintro σ1 H1 ⟨F1, st1, s1, e1, c1⟩
      rw [List.drop_length] at c1
      exact c1 σ1 F1 H1 s1 e1
/-! ### while -/
def whileD (t : DT) (body : DS) : Nat → DSt → Fl
  | 0, _ => .bad
  | n + 1, st => match t st with
    | .ok true st1 => (match body st1 with
      | .nx st2 => whileD t body n st2
      | .ct st2 => whileD t body n st2
      | .bk st2 => .nx st2
      | .rt r st2 => .rt r st2
      | .exc x st2 => .exc x st2
      | .bad => .bad)
    | .ok false st1 => .nx st1
    | .exc x st1 => .exc x st1
    | .bad => .bad
theorem ds_while {t : DT} {fb : DS} (n : Nat) (hp : PassesOwn (model X.prog X.w) X.A X.env X.xe) (ht : DTs X W c t) (hb : DSs X W ss fb) : DSj X W (.While c ss [] pos) (whileD t fb n) := by
  refine ⟨ps_imp (ps_while hp ht.pt hb.ps) fun D σ H ⟨E, F, st, s, q⟩ => ?_⟩
  refine ⟨fun m σ1 H1 => ∃ F1 st1, SR X.K E F1 H1 st1 σ1 ∧ Same F F1 ∧ ContS X.K W E F (whileD t fb m st1) D, ⟨n, F, st, s, Same.refl F, q⟩, ?_⟩
  rintro m σ1 H1 ⟨F1, st1, s1, e1, c1⟩
  cases m with
  | zero => exact c1.elim
  | succ m =>
    refine ⟨E, F1, st1, s1, ?_⟩
    simp only [whileD] at c1
    cases h : t st1 with
    | bad =>
      rw [h] at c1
      exact c1
    | exc x st2 =>
      rw [h] at c1
      exact fun cc d F' H' s' p' r => c1 cc d σ1 F' H' s' (e1.trans p'.ex) r
    | ok b st2 =>
      rw [h] at c1
      cases b with
      | false =>
        intro b' F2 H2 s2 p2 r2
        have eb : false = b' := r2
        subst eb
        exact iteF (c1 σ1 F2 H2 s2 (e1.trans p2.ex))
      | true =>
        intro b' F2 H2 s2 p2 r2
        have eb : true = b' := r2
        subst eb
        refine iteT ⟨fun σ' H' => ∃ F3 st3, SR X.K E F3 H' st3 σ' ∧ Same F F3 ∧ ContS X.K W E F (whileD t fb m st3) D, fun σ' H' z => ⟨m, Nat.lt_succ_self m, z⟩, E, F2, st2, s2, ?_⟩
        simp only at c1
        cases hb2 : fb st2 with
        | nx st3 =>
          rw [hb2] at c1
          exact fun σ' F3 H3 s3 e3 => ⟨F3, st3, s3, (e1.trans p2.ex).trans e3, c1⟩
        | ct st3 =>
          rw [hb2] at c1
          exact fun σ' F3 H3 s3 e3 => ⟨F3, st3, s3, (e1.trans p2.ex).trans e3, c1⟩
        | bk st3 =>
          rw [hb2] at c1
          exact fun σ' F3 H3 s3 e3 => c1 σ' F3 H3 s3 ((e1.trans p2.ex).trans e3)
        | rt r st3 =>
          rw [hb2] at c1
          exact fun v σ' F3 H3 s3 e3 => c1 v σ' F3 H3 s3 ((e1.trans p2.ex).trans e3)
        | exc x st3 =>
          rw [hb2] at c1
          exact fun cc d σ' F3 H3 s3 e3 => c1 cc d σ' F3 H3 s3 ((e1.trans p2.ex).trans e3)
        | bad =>
          rw [hb2] at c1
          exact c1
end
end Dl

namespace Dl
open PySem L2 PySem.Spec PyProof.Rows
variable [ExI]
/-! ### comprehensions -/
def wipeD (st : DSt) : List Nat → DSt
  | [] => st
  | v :: vs => (wipeD st vs).set v none
def unwipe (st0 st : DSt) : List Nat → DSt
  | [] => st
  | v :: vs => (unwipe st0 st vs).set v (st0.getD v none)
theorem wipeD_len (st : DSt) : ∀ vs, (wipeD st vs).length = st.length
  | [] => rfl
  | v :: vs => by simp [wipeD, wipeD_len st vs]
theorem unwipe_len (st0 st : DSt) : ∀ vs, (unwipe st0 st vs).length = st.length
  | [] => rfl
  | v :: vs => by simp [unwipe, unwipe_len st0 st vs]
theorem wipeD_get {st : DSt} {j : Nat} {s : S} : ∀ {vs : List Nat}, (wipeD st vs)[j]? = some (some s) → j ∉ vs ∧ st[j]? = some (some s)
  | [], h => ⟨by simp, h⟩
  | v :: vs, h => by
    simp only [wipeD] at h
    rcases get_set h with ⟨_, z⟩ | ⟨n, z⟩
    · cases z
    · obtain ⟨h1, h2⟩ := wipeD_get z
      exact ⟨by simp only [List.mem_cons, not_or]; exact ⟨n, h1⟩, h2⟩
theorem wipeD_out {st : DSt} {j : Nat} : ∀ {vs : List Nat}, j ∉ vs → (wipeD st vs)[j]? = st[j]?
  | [], _ => rfl
  | v :: vs, h => by
    simp only [List.mem_cons, not_or] at h
    simp only [wipeD]
    rw [set_get_ne h.1, wipeD_out h.2]
theorem unwipe_get {st0 st : DSt} {j : Nat} {s : S} (hl : st0.length = st.length) : ∀ {vs : List Nat}, (unwipe st0 st vs)[j]? = some (some s) → (j ∉ vs ∧ st[j]? = some (some s)) ∨ (j ∈ vs ∧ st0[j]? = some (some s))
  | [], h => .inl ⟨by simp, h⟩
  | v :: vs, h => by
    simp only [unwipe] at h
    rcases get_set h with ⟨e, z⟩ | ⟨n, z⟩
    · subst e
      refine .inr ⟨by simp, ?_⟩
      rw [List.getD_eq_getElem?_getD] at z
      cases q : st0[j]? with
      | none =>
        rw [q] at z
        cases z
      | some x =>
        rw [q] at z
        exact congrArg some z.symm
    · rcases unwipe_get hl z with ⟨h1, h2⟩ | ⟨h1, h2⟩
      · exact .inl ⟨by simp only [List.mem_cons, not_or]; exact ⟨n, h1⟩, h2⟩
      · exact .inr ⟨by simp [h1], h2⟩
theorem unwipe_out {st0 st : DSt} {j : Nat} : ∀ {vs : List Nat}, j ∉ vs → (unwipe st0 st vs)[j]? = st[j]?
  | [], _ => rfl
  | v :: vs, h => by
    simp only [List.mem_cons, not_or] at h
    simp only [unwipe]
    rw [set_get_ne h.1, unwipe_out h.2]
theorem unwipe_in {st0 st : DSt} {j : Nat} (hl : st0.length = st.length) (hj : j < st.length) : ∀ {vs : List Nat}, j ∈ vs → (unwipe st0 st vs)[j]? = st0[j]?
  | [], h => by simp at h
  | v :: vs, h => by
    simp only [unwipe]
    by_cases e : j = v
    · subst e
      rw [List.getElem?_set_self (by rw [unwipe_len]; exact hj), List.getD_eq_getElem?_getD]
      have : j < st0.length := by omega
      rw [List.getElem?_eq_getElem this]
      rfl
    · rw [set_get_ne e]
      refine unwipe_in hl hj ?_
      simp only [List.mem_cons] at h
      rcases h with z | z
      · exact absurd z e
      · exact z
section
variable {K : PySem.W.Frag} {E : Ent} {F H F1 H1 F4 H4 : Hp} {st st1 st4 : DSt} {σ σ2 : L2.St} {vs : List Nat}
theorem SR.wipe (s : SR K E F H st σ) (vs : List Nat) : SR K E F H (wipeD st vs) (L2.wipe σ vs) := by
  have out : ∀ {j : Nat} {z : S}, (wipeD st vs)[j]? = some (some z) → st[j]? = some (some z) ∧ (L2.wipe σ vs)[j]? = σ[j]? := fun {j z} h => by
    obtain ⟨h1, h2⟩ := wipeD_get h
    exact ⟨h2, wipe_out h1⟩
  refine ⟨by rw [wipeD_len, wipe_length]; exact s.len, s.ex, fun i d h => ?_, fun i xs h => ?_, fun i xs h => ?_, fun i j xs ys p h1 h2 h3 h4 => ?_, s.fF, s.fE, s.fH, s.fB, fun i c ns ds h => by
    obtain ⟨h1, h2⟩ := wipeD_get h
    rw [wipe_out h1]
    exact s.slf i c ns ds h2, fun i x h => by
    obtain ⟨h1, h2⟩ := wipeD_get h
    rw [wipe_out h1]
    exact s.exc i x h2⟩
  · obtain ⟨a, b⟩ := out h
    rw [b]
    exact s.val i d a
  · obtain ⟨a, b⟩ := out h
    rw [b]
    exact s.own i xs a
  · obtain ⟨a, b⟩ := out h
    rw [b]
    exact s.bor i xs a
  · have g : ∀ {j : Nat} {ys : List D}, ((wipeD st vs)[j]? = some (some (.own ys)) ∨ (wipeD st vs)[j]? = some (some (.bor ys))) → (st[j]? = some (some (.own ys)) ∨ st[j]? = some (some (.bor ys))) ∧ (L2.wipe σ vs)[j]? = σ[j]? := fun {j ys} h => by
      rcases h with h | h
      · exact ⟨.inl (out h).1, (out h).2⟩
      · exact ⟨.inr (out h).1, (out h).2⟩
    obtain ⟨a1, b1⟩ := g h1
    obtain ⟨a2, b2⟩ := g h2
    rw [b1] at h3
    rw [b2] at h4
    exact s.sep i j xs ys p a1 a2 h3 h4
theorem own_wipe {p : Addr} (h : OwnAt (wipeD st vs) (L2.wipe σ vs) p) : ∃ (j : Nat) (xs : List D), j ∉ vs ∧ (st[j]? = some (some (.own xs)) ∨ st[j]? = some (some (.bor xs))) ∧ σ[j]? = some (some (.ref p)) := by
  obtain ⟨j, xs, h1, h2⟩ := h
  have g : j ∉ vs ∧ (st[j]? = some (some (.own xs)) ∨ st[j]? = some (some (.bor xs))) := by
    rcases h1 with h | h
    · exact ⟨(wipeD_get h).1, .inl (wipeD_get h).2⟩
    · exact ⟨(wipeD_get h).1, .inr (wipeD_get h).2⟩
  rw [wipe_out g.1] at h2
  exact ⟨j, xs, g.1, g.2, h2⟩
/-- from a wiped state into the block -/
structure StpW (F H : Hp) (st : DSt) (σ : L2.St) (vs : List Nat) (F' H' : Hp) (st' : DSt) (σ' : L2.St) : Prop where
  ex : Same F F'
  keep : ∀ a o, H a = some o → ¬ OwnAt (wipeD st vs) (L2.wipe σ vs) a → H' a = some o ∧ F' a = F a
  own : ∀ p, OwnAt st' σ' p → OwnAt (wipeD st vs) (L2.wipe σ vs) p
  dfd : ∀ (i : Nat) s, (wipeD st vs)[i]? = some (some s) → ∃ s', st'[i]? = some (some s')
  live : ∀ a, H' a = none → H a = none
  out : ∀ (j : Nat), j ∉ vs → σ'[j]? = σ[j]?
theorem StpW.step {st5 : DSt} {F5 H5 : Hp} (a : StpW F1 H1 st1 σ vs F4 H4 st4 σ2) (b : Stp F4 H4 st4 σ2 F5 H5 st5) : StpW F1 H1 st1 σ vs F5 H5 st5 σ2 :=
  ⟨a.ex.trans b.ex, fun x o h n => by
    obtain ⟨h1, e1⟩ := a.keep x o h n
    obtain ⟨h2, e2⟩ := b.keep x o h1 fun q => n (a.own x q)
    exact ⟨h2, e2.trans e1⟩, fun p h => a.own p (b.own p h), fun i s h => by
    obtain ⟨s1, h1⟩ := a.dfd i s h
    exact b.dfd i s1 h1, fun x h => a.live x (b.live x h), a.out⟩
theorem SR.unw (s1 : SR K E F1 H1 st1 σ) (s4 : SR K E F4 H4 st4 σ2) (w : StpW F1 H1 st1 σ vs F4 H4 st4 σ2) (hσ : σ2.length = σ.length) : SR K E F4 H4 (unwipe st1 st4 vs) σ ∧ Stp F1 H1 st1 σ F4 H4 (unwipe st1 st4 vs) := by
  have hl4 : st1.length = st4.length := by rw [s4.len, s1.len, hσ]
  have nown : ∀ {j : Nat} {xs : List D} {p : Addr}, j ∈ vs → (st1[j]? = some (some (.own xs)) ∨ st1[j]? = some (some (.bor xs))) → σ[j]? = some (some (.ref p)) → ¬ OwnAt (wipeD st1 vs) (L2.wipe σ vs) p := fun {j xs p} hj h1 h2 h => by
    obtain ⟨k, ys, k1, k2, k3⟩ := own_wipe h
    have := s1.sep j k xs ys p h1 k2 h2 k3
    subst this
    exact k1 hj
  have ownB : ∀ {j : Nat} {xs : List D} {p : Addr}, ((unwipe st1 st4 vs)[j]? = some (some (.own xs)) ∨ (unwipe st1 st4 vs)[j]? = some (some (.bor xs))) → σ[j]? = some (some (.ref p)) →
      (j ∉ vs ∧ (st4[j]? = some (some (.own xs)) ∨ st4[j]? = some (some (.bor xs))) ∧ σ2[j]? = some (some (.ref p))) ∨ (j ∈ vs ∧ (st1[j]? = some (some (.own xs)) ∨ st1[j]? = some (some (.bor xs)))) := fun {j xs p} h hp => by
    rcases h with h | h
    · rcases unwipe_get hl4 h with ⟨a, b⟩ | ⟨a, b⟩
      · exact .inl ⟨a, .inl b, by rw [w.out j a]; exact hp⟩
      · exact .inr ⟨a, .inl b⟩
    · rcases unwipe_get hl4 h with ⟨a, b⟩ | ⟨a, b⟩
      · exact .inl ⟨a, .inr b, by rw [w.out j a]; exact hp⟩
      · exact .inr ⟨a, .inr b⟩
  constructor
  · refine ⟨by rw [unwipe_len, s4.len, hσ], s4.ex, fun i d h => ?_, fun i xs h => ?_, fun i xs h => ?_, fun i j xs ys p h1 h2 h3 h4 => ?_, s4.fF, s4.fE, s4.fH, s4.fB, fun i c ns ds h => by
      rcases unwipe_get hl4 h with ⟨a, b⟩ | ⟨a, b⟩
      · rw [← w.out i a]
        exact s4.slf i c ns ds b
      · exact s1.slf i c ns ds b, fun i x h => by
      rcases unwipe_get hl4 h with ⟨a, b⟩ | ⟨a, b⟩
      · rw [← w.out i a]
        exact s4.exc i x b
      · obtain ⟨a', cls, d, q1, q2, q3⟩ := s1.exc i x b
        exact ⟨a', cls, d, q1, q2, q3.mono w.ex⟩⟩
    · rcases unwipe_get hl4 h with ⟨a, b⟩ | ⟨a, b⟩
      · rw [← w.out i a]
        exact s4.val i d b
      · obtain ⟨v, k1, k2⟩ := s1.val i d b
        exact ⟨v, k1, Rep.mono w.ex d k2⟩
    · rcases unwipe_get hl4 h with ⟨a, b⟩ | ⟨a, b⟩
      · rw [← w.out i a]
        exact s4.own i xs b
      · obtain ⟨p, us, k1, k2, k3, k4, k5⟩ := s1.own i xs b
        obtain ⟨m1, m2⟩ := w.keep p _ k3 (nown a (.inl b) k1)
        exact ⟨p, us, k1, m2.trans k2, m1, RepL.mono w.ex xs k4, k5⟩
    · rcases unwipe_get hl4 h with ⟨a, b⟩ | ⟨a, b⟩
      · rw [← w.out i a]
        exact s4.bor i xs b
      · obtain ⟨p, us, k1, k2, k3, k4, k5⟩ := s1.bor i xs b
        obtain ⟨m1, m2⟩ := w.keep p _ k3 (nown a (.inr b) k1)
        exact ⟨p, us, k1, m2.trans k2, m1, RepL.mono w.ex xs k4, k5⟩
    · rcases ownB h1 h3 with ⟨a1, b1, c1⟩ | ⟨a1, b1⟩ <;> rcases ownB h2 h4 with ⟨a2, b2, c2⟩ | ⟨a2, b2⟩
      · exact s4.sep i j xs ys p b1 b2 c1 c2
      · exact absurd (w.own p ⟨i, xs, b1, c1⟩) (nown a2 b2 h4)
      · exact absurd (w.own p ⟨j, ys, b2, c2⟩) (nown a1 b1 h3)
      · exact s1.sep i j xs ys p b1 b2 h3 h4
  · refine ⟨w.ex, fun a o h n => w.keep a o h fun z => ?_, fun p ⟨j, xs, a, b⟩ => ?_, fun i u z => ?_, w.live⟩
    · obtain ⟨k, ys, _, k2, k3⟩ := own_wipe z
      exact n ⟨k, ys, k2, k3⟩
    · rcases ownB a b with ⟨a1, b1, c1⟩ | ⟨a1, b1⟩
      · obtain ⟨k, ys, _, k2, k3⟩ := own_wipe (w.own p ⟨j, xs, b1, c1⟩)
        exact ⟨k, ys, k2, k3⟩
      · exact ⟨j, xs, b1, b⟩
    · by_cases hi : i ∈ vs
      · have il : i < st4.length := by
          rw [← hl4]
          exact (List.getElem?_eq_some_iff.mp z).1
        exact ⟨u, by rw [unwipe_in hl4 il hi]; exact z⟩
      · obtain ⟨u', k⟩ := w.dfd i u (by rw [wipeD_out hi]; exact z)
        exact ⟨u', by rw [unwipe_out hi]; exact k⟩
end
theorem asgAll_get : ∀ {is : List Nat} {ds : List D} {st st' : DSt} {k : Nat}, asgAll is ds st = some st' → st'.length = st.length ∧ (∀ z, st'[k]? = some (some z) → (∃ d, z = .val d) ∨ (k ∉ is ∧ st[k]? = some (some z))) ∧ (∀ z, st[k]? = some (some z) → ∃ z', st'[k]? = some (some z'))
  | [], [], st, st', k, h => by
    simp only [asgAll, Option.some.injEq] at h
    subst h
    exact ⟨rfl, fun z hz => .inr ⟨by simp, hz⟩, fun z hz => ⟨z, hz⟩⟩
  | [], _ :: _, _, _, _, h => by simp [asgAll] at h
  | _ :: _, [], _, _, _, h => by simp [asgAll] at h
  | i :: is, d :: ds, st, st', k, h => by
    simp only [asgAll] at h
    split at h
    · rename_i hi
      obtain ⟨h1, h2, h3⟩ := asgAll_get (k := k) h
      refine ⟨by rw [h1, List.length_set], fun z hz => ?_, fun z hz => ?_⟩
      · rcases h2 z hz with e | ⟨n, e⟩
        · exact .inl e
        · rcases get_set e with ⟨_, y⟩ | ⟨n2, y⟩
          · exact .inl ⟨d, Option.some.inj y⟩
          · exact .inr ⟨by simp only [List.mem_cons, not_or]; exact ⟨n2, n⟩, y⟩
      · by_cases e : k = i
        · subst e
          exact h3 _ (List.getElem?_set_self hi)
        · exact h3 z (by rw [set_get_ne e]; exact hz)
    · cases h
theorem asgT_get {t : Tgt} {d : D} {st st' : DSt} {k : Nat} (h : asgT t d st = some st') : st'.length = st.length ∧ (∀ z, st'[k]? = some (some z) → (∃ d, z = .val d) ∨ (k ∉ t.slots ∧ st[k]? = some (some z))) ∧ (∀ z, st[k]? = some (some z) → ∃ z', st'[k]? = some (some z')) := by
  cases t with
  | nm i =>
    simp only [asgT] at h
    split at h
    · rename_i hi
      cases h
      refine ⟨by rw [List.length_set], fun z hz => ?_, fun z hz => ?_⟩
      · rcases get_set hz with ⟨_, y⟩ | ⟨n, y⟩
        · exact .inl ⟨d, Option.some.inj y⟩
        · exact .inr ⟨by simp [Tgt.slots, n], y⟩
      · by_cases e : k = i
        · subst e
          exact ⟨_, List.getElem?_set_self hi⟩
        · exact ⟨z, by rw [set_get_ne e]; exact hz⟩
    · cases h
  | tp is =>
    cases d with
    | tup ds => exact asgAll_get h
    | _ => simp [asgT] at h
theorem wipe_ext {a b : L2.St} : ∀ {vs : List Nat}, a.length = b.length → (∀ j, j ∉ vs → a[j]? = b[j]?) → L2.wipe a vs = L2.wipe b vs := by
  intro vs hl h
  apply List.ext_getElem?
  intro j
  by_cases hj : j ∈ vs
  · have key : ∀ (c : L2.St) (us : List Nat), j ∈ us → (L2.wipe c us)[j]? = if j < c.length then some none else none := by
      intro c us
      induction us with
      | nil => intro z; simp at z
      | cons u us ih =>
        intro z
        unfold L2.wipe
        by_cases e : j = u
        · subst e
          by_cases hc : j < c.length
          · rw [List.getElem?_set_self (by rw [wipe_length]; exact hc), if_pos hc]
          · rw [if_neg hc]
            exact List.getElem?_eq_none (by rw [List.length_set, wipe_length]; omega)
        · rw [set_get_ne e]
          simp only [List.mem_cons] at z
          rcases z with z | z
          · exact absurd z e
          · exact ih z
    rw [key a vs hj, key b vs hj, hl]
  · rw [wipe_out hj, wipe_out hj, h j hj]
/-- [elt for t in .. if ..]: the items, what is made, the state -/
def compD (t : Tgt) (ft : DT) (fe : DX) (vs : List Nat) : List D → List D → DSt → Out R
  | [], acc, st => .ok (.tmp acc) st
  | d :: ds, acc, st => match asgT t d (wipeD st vs) with
    | none => .bad
    | some st1 => match ft st1 with
      | .ok true st2 => (match fe st2 with
        | .ok r st3 => (match frz1 r st3 with
          | some (x, st4) => if acc.length < lim then compD t ft fe vs ds (acc ++ [x]) (unwipe st st4 vs) else .bad
          | none => .bad)
        | _ => .bad)
      | .ok false st2 => compD t ft fe vs ds acc (unwipe st st2 vs)
      | _ => .bad
def dLc (fi : DIt) (t : Tgt) (ft : DT) (fe : DX) (vs : List Nat) : DX := bnd fi fun xs => compD t ft fe vs xs []
abbrev W0 : WX := fun _ _ _ _ => False
def tYesD : DT := fun st => .ok true st
structure DTl (X : Cx) (W : WX) (es : List Expr) (f : DT) : Prop where
  pt : PTs X es (RdT X.K W f)
section
variable {X : Cx} {W : WX} {a : Expr} {f : DT}
theorem dl_nil : DTl X W [] tYesD := ⟨⟨fun pins s σ H Q I ⟨E, F, st, sr, q⟩ => pts_nil.run pins s σ H Q I (q true F H sr (Stp.refl F H st σ) rfl)⟩⟩
theorem dl_one (h : DTs X W a f) : DTl X W [a] f := ⟨pts_one h.pt⟩
end
section
variable {X : Cx} {W : WX} {tg iter elt : Expr} {ifs : List Expr} {pos : Pos}
theorem rd_lc {K : PySem.W.Frag} {fi : DIt} {t : Tgt} {ft : DT} {fe : DX} {vs : List Nat} (hvs : ∀ j ∈ t.slots, j ∈ vs) {σ : L2.St} {H : Hp} {Q : VK} (q : RdE K W (dLc fi t ft fe vs) σ H Q) : tLc (RdI K W fi) (RdG K t) (RdT K W0 ft) (RdE K W0 fe) vs σ H Q := by
  obtain ⟨E, F, st, s, q⟩ := q
  refine ⟨E, F, st, s, ?_⟩
  unfold dLc bnd at q
  cases e : fi st with
  | exc x st' =>
    rw [e] at q
    exact q
  | bad =>
    rw [e] at q
    exact q
  | ok xs st' =>
    rw [e] at q
    simp only at q
    intro J F' H' s' p' wd D hD
    obtain ⟨Y, wk, hy⟩ := wd
    refine lc_it wk (fun i H1 => ∃ F1 st1 acc us, SR K E F1 H1 st1 σ ∧ Same F' F1 ∧ Stp F H st σ F1 H1 st1 ∧ H1 D = some (.lst us) ∧ RepL K F1 acc us ∧ F1 D = none ∧ ¬ OwnAt st1 σ D ∧ Cont K W (RR K) E F H st σ (compD t ft fe vs (xs.drop i) acc st1) Q) ?_ ?_ ?_ ?_
    · exact ⟨F', st', [], [], s'.grow hD, Same.refl F', p'.trans (s'.stpGrow hD), upd_same, RepL.nil, free_F s'.ex hD, s'.notOwn hD, by rw [List.drop_zero]; exact q⟩
    · rintro i H1 _ ⟨F1, st1, acc, us, s1, e1, _⟩
      exact e1.trans s1.ex
    · rintro i x H1 H2 hi ⟨F1, st1, acc, us, s1, e1, p1, h1, r1, f1, n1, c1⟩ y
      obtain ⟨d, hd, yl⟩ := hy i H1 x H2 hi y
      rw [List.drop_eq_getElem_cons hi] at c1
      have hd' : xs[i] = d := by
        rw [List.getElem?_eq_getElem hi] at hd
        exact Option.some.inj hd
      rw [hd'] at c1
      simp only [compD] at c1
      obtain ⟨F2, s2, e2, r2, p2⟩ := yld_sr yl s1 e1
      have h2 : H2 D = some (.lst us) ∧ F2 D = F1 D := p2.keep D _ h1 n1
      refine ⟨E, F2, wipeD st1 vs, d, s2.wipe vs, r2, ?_⟩
      cases ha : asgT t d (wipeD st1 vs) with
      | none =>
        rw [ha] at c1
        exact c1
      | some st2 =>
        rw [ha] at c1
        simp only at c1
        intro σ2 s3 out
        have hσ : σ2.length = σ.length := by
          rw [← s3.len, (asgT_get (k := 0) ha).1, wipeD_len, s1.len]
        have outv : ∀ j, j ∉ vs → σ2[j]? = σ[j]? := fun j hj => by
          rw [out j fun z => hj (hvs j z), wipe_out hj]
        have w3 : StpW F2 H2 st1 σ vs F2 H2 st2 σ2 := by
          refine ⟨Same.refl F2, fun a o h _ => ⟨h, rfl⟩, fun p ⟨k, ys, a, b⟩ => ?_, fun k z hz => (asgT_get (k := k) ha).2.2 z hz, fun a h => h, outv⟩
          have g := (asgT_get (k := k) ha).2.1
          have gk : k ∉ t.slots ∧ ((wipeD st1 vs)[k]? = some (some (.own ys)) ∨ (wipeD st1 vs)[k]? = some (some (.bor ys))) := by
            rcases a with a | a
            · rcases g _ a with ⟨d', z⟩ | ⟨z1, z2⟩
              · cases z
              · exact ⟨z1, .inl z2⟩
            · rcases g _ a with ⟨d', z⟩ | ⟨z1, z2⟩
              · cases z
              · exact ⟨z1, .inr z2⟩
          exact ⟨k, ys, gk.2, by rw [← out k gk.1]; exact b⟩
        refine ⟨wipe_ext hσ outv, E, F2, st2, s3, ?_⟩
        have nD : ∀ {st5 : DSt} {F5 H5 : Hp}, StpW F2 H2 st1 σ vs F5 H5 st5 σ2 → ¬ OwnAt (wipeD st1 vs) (L2.wipe σ vs) D := fun _ z => by
          obtain ⟨k, ys, _, k2, k3⟩ := own_wipe z
          exact n1 ⟨k, ys, k2, k3⟩
        cases hb : ft st2 with
        | bad =>
          rw [hb] at c1
          exact c1
        | exc x st3 =>
          rw [hb] at c1
          exact c1.elim
        | ok b st3 =>
          rw [hb] at c1
          cases b with
          | false =>
            simp only at c1
            intro b' F3 H3 s4 p4 rb
            have eb : false = b' := rb
            subst eb
            refine iteF ?_
            have w4 := w3.step p4
            obtain ⟨s5, p5⟩ := s2.unw s4 w4 hσ
            obtain ⟨k1, k2⟩ := w4.keep D _ h2.1 (nD w4)
            exact ⟨F3, _, acc, us, s5, e1.trans (e2.trans p4.ex), (p1.trans p2).trans p5, k1, RepL.mono (e2.trans p4.ex) acc r1, by rw [k2, h2.2]; exact f1, fun z => n1 (p5.own D z), c1⟩
          | true =>
            simp only at c1
            intro b' F3 H3 s4 p4 rb
            have eb : true = b' := rb
            subst eb
            refine iteT ⟨E, F3, st3, s4, ?_⟩
            cases hr : fe st3 with
            | bad =>
              rw [hr] at c1
              exact c1
            | exc x st4 =>
              rw [hr] at c1
              exact c1.elim
            | ok r st4 =>
              rw [hr] at c1
              simp only at c1
              intro v F4 H4 s5 p5 rv
              cases hz : frz1 r st4 with
              | none =>
                rw [hz] at c1
                exact c1.elim
              | some dq =>
                obtain ⟨dv, st5⟩ := dq
                rw [hz] at c1
                simp only at c1
                split at c1
                · rename_i hlim
                  have w5 := (w3.step p4).step p5
                  obtain ⟨F5, f5, r5⟩ := frz1_ok s5 rv hz
                  have w6 : StpW F2 H2 st1 σ vs F5 H4 st5 σ2 := by
                    refine ⟨w5.ex.trans f5.ex, fun a o h n => ?_, fun p z => w5.own p (f5.own p z), fun k u z => ?_, w5.live, w5.out⟩
                    · obtain ⟨k1, k2⟩ := w5.keep a o h n
                      refine ⟨k1, ?_⟩
                      by_cases ea : F5 a = F4 a
                      · rw [ea]
                        exact k2
                      · exfalso
                        rcases f5.chg a ea with z | ⟨_, _, z⟩
                        · exact n (w5.own a z)
                        · have h3 : H3 a = some o := ((w3.step p4).keep a o h n).1
                          rw [h3] at z
                          cases z
                    · obtain ⟨u', kk⟩ := w5.dfd k u z
                      exact f5.dfd k u' kk
                  obtain ⟨s6, p6⟩ := s2.unw f5.sr w6 hσ
                  obtain ⟨k1, k2⟩ := w6.keep D _ h2.1 (nD w6)
                  have fD : F5 D = none := by rw [k2, h2.2]; exact f1
                  have nOw : ¬ OwnAt (unwipe st1 st5 vs) σ D := fun z => n1 (p6.own D z)
                  refine ⟨us, k1, by rw [← r1.length]; exact lim_lt hlim, F5, _, acc ++ [dv], us ++ [v], ?_, e1.trans (e2.trans w6.ex), ?_, upd_same, (RepL.mono (e2.trans w6.ex) acc r1).append (RepL.one r5), fD, nOw, c1⟩
                  · -- the made list has grown
                    refine ⟨s6.len, fun a u z => ?_, s6.val, fun j ys z => ?_, fun j ys z => ?_, s6.sep, s6.fF, s6.fE, fun a u z n => ?_, fun j q2 z => ?_, s6.slf, s6.exc⟩
                    · rw [upd_ne (fun y => by rw [y, fD] at z; cases z)]
                      exact s6.ex a u z
                    · obtain ⟨p7, ws, m1, m2, m3, m4, m5⟩ := s6.own j ys z
                      exact ⟨p7, ws, m1, m2, by rw [upd_ne (fun y => nOw ⟨j, ys, .inl z, by rw [← y]; exact m1⟩)]; exact m3, m4, m5⟩
                    · obtain ⟨p7, ws, m1, m2, m3, m4, m5⟩ := s6.bor j ys z
                      exact ⟨p7, ws, m1, m2, by rw [upd_ne (fun y => nOw ⟨j, ys, .inr z, by rw [← y]; exact m1⟩)]; exact m3, m4, m5⟩
                    · have nd : a ≠ D := fun y => by
                        rw [y, s'.fresh0 hD] at z
                        cases z
                      rw [upd_ne nd]
                      exact s6.fH a u z n
                    · unfold upd
                      split
                      · exact fun y => nomatch y
                      · exact s6.fB j q2 z
                  · have p7 := (p1.trans p2).trans p6
                    refine ⟨p7.ex, fun a o h n => ?_, p7.own, p7.dfd, fun a z => ?_⟩
                    · obtain ⟨m1, m2⟩ := p7.keep a o h n
                      have nd : a ≠ D := fun y => by
                        have := p'.live D hD
                        rw [y, this] at h
                        cases h
                      exact ⟨by rw [upd_ne nd]; exact m1, m2⟩
                    · unfold upd at z
                      split at z
                      · cases z
                      · exact p7.live a z
                · exact c1.elim
    · rintro H1 ⟨F1, st1, acc, us, s1, e1, p1, h1, r1, f1, n1, c1⟩
      rw [List.drop_length] at c1
      exact c1 (.ref D) F1 H1 s1 p1 ⟨D, us, rfl, f1, h1, r1, n1, s'.fresh0 hD, p'.live D hD⟩
theorem de_lc {fi : DIt} {t : Tgt} {ft : DT} {fe : DX} {scope : Scope} {own : List (Str × Nat)} (hc : X.calm = true) (hN : X.N.Nodup) (hi : DI X W tg iter fi) (ok : BlkOk X.N X.env.scope scope own)
    (hg : ∀ (s : Shared) (H : Hp) (C : Addr) (cl : List (Str × Addr)) (fp : List Addr), DG (X.blk s H scope (compEnvC scope cl C X.env) fp) tg t)
    (ht : ∀ (s : Shared) (H : Hp) (C : Addr) (cl : List (Str × Addr)) (fp : List Addr), DTl (X.blk s H scope (compEnvC scope cl C X.env) fp) W0 ifs ft)
    (he : ∀ (s : Shared) (H : Hp) (C : Addr) (cl : List (Str × Addr)) (fp : List Addr), DE (X.blk s H scope (compEnvC scope cl C X.env) fp) W0 elt fe) (hvs : ∀ j ∈ t.slots, j ∈ own.map (·.2) := by decide)
    (hs : ∀ x, foldedSetIterable iter X.env x = pure x := by intro _; rfl) : DE X W (.ListComp elt [⟨tg, iter, ifs, 0⟩] scope pos) (dLc fi t ft fe (own.map (·.2))) :=
  ⟨pe_imp (pe_lc (g := RdG X.K t) (tt := RdT X.K W0 ft) (te := RdE X.K W0 fe) hc hN hi.pi ok (fun s H C cl fp => (hg s H C cl fp).pg) (fun s H C cl fp => (ht s H C cl fp).pt) (fun s H C cl fp => (he s H C cl fp).pe) hs) fun σ H Q q => rd_lc hvs q⟩
theorem ds_setLc {i : Nat} {y : Str} {py spos : Pos} {fi : DIt} {t : Tgt} {ft : DT} {fe : DX} {scope : Scope} {own : List (Str × Nat)} (hc : X.calm = true) (hN : X.N.Nodup) (hy : X.N[i]? = some y) (hyl : X.env.scope.names.lookup y = some .local)
    (hsw : swapsWith (.ListComp elt [⟨tg, iter, ifs, 0⟩] scope pos) (some (.Name y py)) spos.line X.env = pure true) (hi : DI X W tg iter fi) (ok : BlkOk X.N X.env.scope scope own)
    (hg : ∀ (s : Shared) (H : Hp) (C : Addr) (cl : List (Str × Addr)) (fp : List Addr), DG (X.blk s H scope (compEnvC scope cl C X.env) fp) tg t)
    (ht : ∀ (s : Shared) (H : Hp) (C : Addr) (cl : List (Str × Addr)) (fp : List Addr), DTl (X.blk s H scope (compEnvC scope cl C X.env) fp) W0 ifs ft)
    (he : ∀ (s : Shared) (H : Hp) (C : Addr) (cl : List (Str × Addr)) (fp : List Addr), DE (X.blk s H scope (compEnvC scope cl C X.env) fp) W0 elt fe) (hvs : ∀ j ∈ t.slots, j ∈ own.map (·.2) := by decide)
    (hs : ∀ x, foldedSetIterable iter X.env x = pure x := by intro _; rfl) : DSj X W (.Assign [.Name y py] (.ListComp elt [⟨tg, iter, ifs, 0⟩] scope pos) spos) (dSet i (dLc fi t ft fe (own.map (·.2)))) := by
  refine ⟨ps_imp (ps_setLc (g := RdG X.K t) (tt := RdT X.K W0 ft) (te := RdE X.K W0 fe) hc hN hy hyl hsw hi.pi ok (fun s H C cl fp => (hg s H C cl fp).pg) (fun s H C cl fp => (ht s H C cl fp).pt) (fun s H C cl fp => (he s H C cl fp).pe) hs) fun D σ H q => ?_⟩
  obtain ⟨E, F, st, s, q⟩ := q
  refine rd_lc hvs (Rd.part s q fun v F1 H1 st1 r s1 p1 h1 q1 => ?_)
  split at q1
  · rename_i st2 e
    obtain ⟨F2, s2, x2⟩ := asg_ok s1 h1 e
    exact q1 _ F2 H1 s2 x2
  · exact q1.elim
end
end Dl

namespace Dl
open PySem L2 PySem.Spec PyProof.Rows
variable [ExI]
/-! ### defs -/
inductive Arg where
  | val (d : D) | own (xs : List D)
inductive Ret where
  | val (d : D) | new (xs : List D)
inductive COut where
  | ok (r : Ret) (outs : List (Option (List D))) | exc (x : Exn) (outs : List (Option (List D))) | bad
abbrev FnD := List Arg → COut
def ArgOk (K : PySem.W.Frag) (F H : Hp) : Arg → V → Prop
  | .val d, v => Rep K F d v
  | .own xs, v => ∃ p vs, v = .ref p ∧ F p = none ∧ H p = some (.lst vs) ∧ RepL K F xs vs
def OwnArg (args : List Arg) (vs : List V) (a : Addr) : Prop := ∃ (j : Nat) (xs : List D), args[j]? = some (.own xs) ∧ vs[j]? = some (.ref a)
def ASep (args : List Arg) (vs : List V) : Prop := ∀ (i j : Nat) (xs ys : List D) (a : Addr), args[i]? = some (.own xs) → args[j]? = some (.own ys) → vs[i]? = some (.ref a) → vs[j]? = some (.ref a) → i = j
structure CP (K : PySem.W.Frag) (F H : Hp) (args : List Arg) (vs : List V) (F' H' : Hp) (outs : List (Option (List D))) : Prop where
  ex : Same F F'
  exH : Same F' H'
  keep : ∀ a o, H a = some o → ¬ OwnArg args vs a → H' a = some o ∧ F' a = F a
  outs : ∀ (j : Nat) ys p, outs[j]? = some (some ys) → vs[j]? = some (.ref p) → F' p = none ∧ ∃ ws, H' p = some (.lst ws) ∧ RepL K F' ys ws
  live : ∀ a, H' a = none → H a = none
def RetOk (K : PySem.W.Frag) (H F' H' : Hp) : Ret → V → Prop
  | .val d, v => Rep K F' d v
  | .new xs, v => ∃ p vs, v = .ref p ∧ H p = none ∧ F' p = none ∧ H' p = some (.lst vs) ∧ RepL K F' xs vs
def spD (K : PySem.W.Frag) (n : Nat) (f : FnD) : Sp := fun vs H Q E => ∃ F args, Same F H ∧ vs.length = n ∧ Paired (ArgOk K F H) args vs ∧ ASep args vs ∧ match f args with
  | .ok r outs => ∀ v F' H', CP K F H args vs F' H' outs → RetOk K H F' H' r v → Q v H'
  | .exc x outs => ∀ c d F' H', CP K F H args vs F' H' outs → XR K F' x c d → E c d H'
  | .bad => False
/-! the caller -/
def Ret.toR : Ret → R
  | .val d => .val d
  | .new xs => .tmp xs
def callOp (n : Nat) (f : FnD) (dds : List D) (bk : Option Nat) : ON := fun rs st => if rs.length + dds.length = n then (match bk with
  | none => (match frzs rs st with
    | some (as, st1) => (match f ((as ++ dds).map .val) with
      | .ok r _ => .ok r.toR st1
      | .exc x _ => .exc x st1
      | .bad => .bad)
    | none => .bad)
  | some k => (match rs[k]? with
    | some (.at i) => (match frzs (rs.set k (.val .non)) st with
      | some (as, st1) => (match getC st1 i with
        | some xs => (match f (((as ++ dds).map Arg.val).set k (.own xs)) with
          | .ok r outs => (match outs[k]? with
            | some (some ys) => .ok r.toR (setC st1 i ys)
            | _ => .bad)
          | .exc x outs => (match outs[k]? with
            | some (some ys) => .exc x (setC st1 i ys)
            | _ => .bad)
          | .bad => .bad)
        | none => .bad)
      | none => .bad)
    | _ => .bad)) else .bad
theorem args_val {K : PySem.W.Frag} {F H : Hp} : ∀ {ds : List D} {vs : List V}, RepL K F ds vs → Paired (ArgOk K F H) (ds.map .val) vs
  | [], vs, h => by
    rw [repL_nil.mp h]
    exact .nil
  | d :: ds, vs, h => by
    obtain ⟨v, ws, rfl, r, t⟩ := repL_cons.mp h
    exact .cons r (args_val t)
theorem noOwn_val {ds : List D} {vs : List V} {a : Addr} : ¬ OwnArg (ds.map .val) vs a := by
  rintro ⟨j, xs, h, _⟩
  rw [List.getElem?_map] at h
  cases e : ds[j]? with
  | none =>
    rw [e] at h
    cases h
  | some d =>
    rw [e] at h
    cases h
theorem paired_set {α β : Type} {G : α → β → Prop} {x : α} {v w : β} : ∀ {l : List α} {vs : List β} {k : Nat}, Paired G l (vs.set k w) → vs[k]? = some v → G x v → Paired G (l.set k x) vs
  | _, [], k, h, e, g => by simp at e
  | l, v0 :: vs, 0, h, e, g => by
    simp at e
    subst e
    simp only [List.set_cons_zero] at h
    cases h with
    | cons a t => exact .cons g t
  | l, v0 :: vs, k + 1, h, e, g => by
    simp only [List.set_cons_succ] at h
    cases h with
    | cons a t => exact .cons a (paired_set (k := k) t (by simpa using e) g)
theorem paired_setBoth {α β : Type} {G : α → β → Prop} {x : α} {w : β} (g : G x w) : ∀ {l : List α} {vs : List β} {k : Nat}, Paired G l vs → Paired G (l.set k x) (vs.set k w)
  | _, _, _, .nil => .nil
  | _, _, 0, .cons a t => .cons g t
  | _, _, k + 1, .cons a t => .cons a (paired_setBoth g (k := k) t)
theorem tsep_set {d : D} {w : V} : ∀ {rs : List R} {vs : List V} {k : Nat}, TSep rs vs → TSep (rs.set k (.val d)) (vs.set k w)
  | [], _, _, h => by simp [TSep]
  | r :: rs, [], k, h => by
    cases k <;> simp [TSep]
  | r :: rs, v :: vs, 0, h => by
    simp only [List.set_cons_zero]
    exact (tsep_tail h).1
  | r :: rs, v :: vs, k + 1, h => by
    simp only [List.set_cons_succ]
    obtain ⟨h1, h2⟩ := tsep_tail h
    have t := tsep_set (d := d) (w := w) (k := k) h1
    cases r with
    | tmp ys =>
      refine ⟨fun j zs hj hv => ?_, t⟩
      by_cases e : j = k
      · subst e
        rcases get_set hj with ⟨_, z⟩ | ⟨n, _⟩
        · cases z
        · exact n rfl
      · rw [set_get_ne e] at hj hv
        exact h2 ⟨ys, rfl⟩ j zs hj hv
    | val d' => exact t
    | «at» i => exact t
section
variable {K : PySem.W.Frag} {W : WX} {E : Ent} {Fb Hb F H F1 F' H' : Hp} {stb st st1 : DSt} {σ : L2.St} {Q : VK}
/-- behind a call that borrowed nothing -/
theorem SR.called {args : List Arg} {vs : List V} {outs : List (Option (List D))} (s : SR K E F1 H st1 σ) (c : CP K F1 H args vs F' H' outs) (hn : ∀ a, ¬ OwnArg args vs a) : SR K E F' H' st1 σ ∧ Stp F1 H st1 σ F' H' st1 := by
  refine ⟨⟨s.len, c.exH, fun i d h => ?_, fun i xs h => ?_, fun i xs h => ?_, s.sep, fun a o h => ?_, s.fE.trans c.ex, fun a o h n => ?_, fun i p h z => s.fB i p h (c.live p z), s.slf, fun i x h => by
    obtain ⟨a, cls, d, q1, q2, q3⟩ := s.exc i x h
    exact ⟨a, cls, d, q1, q2, q3.mono c.ex⟩⟩, ⟨c.ex, fun a o h _ => c.keep a o h (hn a), fun _ z => z, fun i u z => ⟨u, z⟩, c.live⟩⟩
  · obtain ⟨v, k1, k2⟩ := s.val i d h
    exact ⟨v, k1, Rep.mono c.ex d k2⟩
  · obtain ⟨p, us, k1, k2, k3, k4, k5⟩ := s.own i xs h
    obtain ⟨m1, m2⟩ := c.keep p _ k3 (hn p)
    exact ⟨p, us, k1, m2.trans k2, m1, RepL.mono c.ex xs k4, k5⟩
  · obtain ⟨p, us, k1, k2, k3, k4, k5⟩ := s.bor i xs h
    obtain ⟨m1, m2⟩ := c.keep p _ k3 (hn p)
    exact ⟨p, us, k1, m2.trans k2, m1, RepL.mono c.ex xs k4, k5⟩
  · have hH : ∃ o', H a = some o' := by
      by_cases b : ∃ i, E.B i = some a
      · obtain ⟨i, hi⟩ := b
        cases q : H a with
        | none => exact absurd q (s.fB i a hi)
        | some o' => exact ⟨o', rfl⟩
      · exact ⟨o, s.fH a o h fun i z => b ⟨i, z⟩⟩
    obtain ⟨o', hH⟩ := hH
    rw [(c.keep a o' hH (hn a)).2]
    exact s.fF a o h
  · exact (c.keep a o (s.fH a o h n) (hn a)).1
/-- behind a call that borrowed the list of slot i -/
theorem SR.calledB {args : List Arg} {vs : List V} {outs : List (Option (List D))} {i k : Nat} {xs ys : List D} {p : Addr} (s : SR K E F1 H st1 σ) (c : CP K F1 H args vs F' H' outs) (e : getC st1 i = some xs) (hp : σ[i]? = some (some (.ref p)))
    (hv : vs[k]? = some (.ref p)) (hn : ∀ a, OwnArg args vs a → a = p) (ho : outs[k]? = some (some ys)) : SR K E F' H' (setC st1 i ys) σ ∧ Stp F1 H st1 σ F' H' (setC st1 i ys) := by
  obtain ⟨o1, ws, o2, o3⟩ := c.outs k ys p ho hv
  have main : ∀ (cc : List D → S), (cc = S.own ∨ cc = S.bor) → st1[i]? = some (some (cc xs)) → setC st1 i ys = st1.set i (some (cc ys)) → SR K E F' H' (setC st1 i ys) σ ∧ Stp F1 H st1 σ F' H' (setC st1 i ys) := by
    intro cc hc e1 e2
    rw [e2]
    have isown : st1[i]? = some (some (.own xs)) ∨ st1[i]? = some (some (.bor xs)) := by
      rcases hc with rfl | rfl
      · exact .inl e1
      · exact .inr e1
    have ownp : OwnAt st1 σ p := ⟨i, xs, isown, hp⟩
    have il : i < st1.length := (List.getElem?_eq_some_iff.mp e1).1
    have hne : ∀ {a : Addr}, a ≠ p → ¬ OwnArg args vs a := fun {a} n z => n (hn a z)
    have apart : ∀ {j : Nat} {zs : List D} {q : Addr}, j ≠ i → (st1[j]? = some (some (.own zs)) ∨ st1[j]? = some (some (.bor zs))) → σ[j]? = some (some (.ref q)) → q ≠ p := fun {j zs q} n a b z => n (s.sep j i zs xs p a isown (by rw [← z]; exact b) hp)
    have ownB : ∀ {j : Nat} {zs : List D}, ((st1.set i (some (cc ys)))[j]? = some (some (.own zs)) ∨ (st1.set i (some (cc ys)))[j]? = some (some (.bor zs))) → ∃ zs', st1[j]? = some (some (.own zs')) ∨ st1[j]? = some (some (.bor zs')) := fun {j zs} h => by
      by_cases n : j = i
      · rw [n]
        exact ⟨xs, isown⟩
      · rw [set_get_ne n] at h
        exact ⟨zs, h⟩
    have pE : ∀ {a : Addr} {o : HO}, E.H0 a = some o → a = p → E.B i = some p := fun {a o} h z => by
      subst z
      rcases hc with rfl | rfl
      · obtain ⟨p', _, k1, _, _, _, k5⟩ := s.own i xs e1
        rw [hp] at k1
        cases k1
        rw [k5] at h
        cases h
      · obtain ⟨p', _, k1, _, _, _, k5⟩ := s.bor i xs e1
        rw [hp] at k1
        cases k1
        exact k5
    refine ⟨⟨by rw [List.length_set]; exact s.len, c.exH, fun j d h => ?_, fun j zs h => ?_, fun j zs h => ?_, fun j l zs us q a b y w => ?_, fun a o h => ?_, s.fE.trans c.ex, fun a o h n => ?_, fun j q h z => s.fB j q h (c.live q z), fun j c' ns ds h => s.slf j c' ns ds (by rcases get_set h with ⟨_, y⟩ | ⟨_, y⟩; (rcases hc with rfl | rfl <;> cases y); exact y), fun j x h => by
      obtain ⟨a, cls, d, q1, q2, q3⟩ := s.exc j x (by rcases get_set h with ⟨_, y⟩ | ⟨_, y⟩; (rcases hc with rfl | rfl <;> cases y); exact y)
      exact ⟨a, cls, d, q1, q2, q3.mono c.ex⟩⟩, ⟨c.ex, fun a o h n => c.keep a o h (hne fun z => n (by rw [z]; exact ownp)), fun q ⟨j, zs, a, b⟩ => ?_, fun j u z => ?_, c.live⟩⟩
    · rcases get_set h with ⟨_, y⟩ | ⟨n, y⟩
      · rcases hc with rfl | rfl <;> cases y
      · obtain ⟨v, k1, k2⟩ := s.val j d y
        exact ⟨v, k1, Rep.mono c.ex d k2⟩
    · rcases get_set h with ⟨e3, y⟩ | ⟨n, y⟩
      · rcases hc with rfl | rfl
        · cases y
          rw [e3]
          obtain ⟨p', _, k1, _, _, _, k5⟩ := s.own i xs e1
          rw [hp] at k1
          cases k1
          exact ⟨p, ws, hp, o1, o2, o3, k5⟩
        · cases y
      · obtain ⟨q, us, k1, k2, k3, k4, k5⟩ := s.own j zs y
        obtain ⟨m1, m2⟩ := c.keep q _ k3 (hne (apart n (.inl y) k1))
        exact ⟨q, us, k1, m2.trans k2, m1, RepL.mono c.ex zs k4, k5⟩
    · rcases get_set h with ⟨e3, y⟩ | ⟨n, y⟩
      · rcases hc with rfl | rfl
        · cases y
        · cases y
          rw [e3]
          obtain ⟨p', _, k1, _, _, _, k5⟩ := s.bor i xs e1
          rw [hp] at k1
          cases k1
          exact ⟨p, ws, hp, o1, o2, o3, k5⟩
      · obtain ⟨q, us, k1, k2, k3, k4, k5⟩ := s.bor j zs y
        obtain ⟨m1, m2⟩ := c.keep q _ k3 (hne (apart n (.inr y) k1))
        exact ⟨q, us, k1, m2.trans k2, m1, RepL.mono c.ex zs k4, k5⟩
    · obtain ⟨zs', a'⟩ := ownB a
      obtain ⟨us', b'⟩ := ownB b
      exact s.sep j l zs' us' q a' b' y w
    · by_cases z : a = p
      · have f1 := s.fF a o h
        have f2 : F1 p = none := by
          rcases hc with rfl | rfl
          · obtain ⟨p', _, k1, k2, _⟩ := s.own i xs e1
            rw [hp] at k1
            cases k1
            exact k2
          · obtain ⟨p', _, k1, k2, _⟩ := s.bor i xs e1
            rw [hp] at k1
            cases k1
            exact k2
        rw [z] at f1 ⊢
        rw [o1, ← f1, f2]
      · have hH : ∃ o', H a = some o' := by
          by_cases b : ∃ i, E.B i = some a
          · obtain ⟨i, hi⟩ := b
            cases q : H a with
            | none => exact absurd q (s.fB i a hi)
            | some o' => exact ⟨o', rfl⟩
          · exact ⟨o, s.fH a o h fun i z => b ⟨i, z⟩⟩
        obtain ⟨o', hH⟩ := hH
        rw [(c.keep a o' hH (hne z)).2]
        exact s.fF a o h
    · have z : a ≠ p := fun z => n i (by rw [z]; exact pE h z)
      exact (c.keep a o (s.fH a o h n) (hne z)).1
    · obtain ⟨zs', a'⟩ := ownB a
      exact ⟨j, zs', a', b⟩
    · by_cases n : j = i
      · rw [n]
        exact ⟨_, List.getElem?_set_self il⟩
      · exact ⟨u, by rw [set_get_ne n]; exact z⟩
  rcases getC_cases e with ⟨e1, e2⟩ | ⟨e1, e2⟩
  · exact main S.own (.inl rfl) e1 (e2 ys)
  · exact main S.bor (.inr rfl) e1 (e2 ys)
theorem ret_rr {r : Ret} {v : V} {st2 : DSt} (s : SR K E F1 H st1 σ) (p : Stp Fb Hb stb σ F1 H st1) (own : ∀ q, OwnAt st2 σ q → OwnAt st1 σ q) (h : RetOk K H F' H' r v) : RR K E Hb F' H' st2 σ r.toR v := by
  cases r with
  | val d => exact h
  | new xs =>
    obtain ⟨q, us, rfl, h1, h2, h3, h4⟩ := h
    exact ⟨q, us, rfl, h2, h3, h4, fun z => s.notOwn h1 (own q z), s.fresh0 h1, p.live q h1⟩
theorem p_call {f : FnD} {dds : List D} {dvs : List V} {bk : Option Nat} {n : Nat} (hd : ∀ F, RepL K F dds dvs) (E : Ent) (Fb Hb : Hp) (stb : DSt) (F H : Hp) (st : DSt) (σ : L2.St) (rs : List R) (vs : List V) (Q : VK) (s : SR K E F H st σ) (p : Stp Fb Hb stb σ F H st)
    (h : relA K E Hb F H st σ rs vs) (c : Cont K W (RR K) E Fb Hb stb σ (callOp n f dds bk rs st) Q) : spD K n f (vs ++ dvs) H Q (fun c d H' => W c d σ H') := by
  unfold callOp at c
  split at c
  case isFalse => exact c.elim
  rename_i hn0
  have hn : vs.length + dvs.length = n := by
    rw [← hn0, Paired.length h.1, (hd F).length]
  cases bk with
  | none =>
    simp only at c
    cases e : frzs rs st with
    | none =>
      rw [e] at c
      exact c.elim
    | some q =>
      obtain ⟨as, st1⟩ := q
      rw [e] at c
      simp only at c
      obtain ⟨F1, s1, p1, r1, x1⟩ := frzs_ok s p h e
      refine ⟨F1, (as ++ dds).map .val, s1.ex, by rw [List.length_append]; exact hn, args_val (r1.append (hd F1)), fun i j xs ys a h1 _ h3 _ => absurd (show OwnArg ((as ++ dds).map .val) (vs ++ dvs) a from ⟨i, xs, h1, h3⟩) noOwn_val, ?_⟩
      · cases ef : f ((as ++ dds).map .val) with
        | bad =>
          rw [ef] at c
          exact c
        | ok r outs =>
          rw [ef] at c
          intro v F' H' cp ro
          obtain ⟨s2, p2⟩ := s1.called cp fun a => noOwn_val
          exact c v F' H' s2 (p1.trans p2) (ret_rr s1 p1 (fun _ z => z) ro)
        | exc x outs =>
          rw [ef] at c
          intro cc d F' H' cp xr
          obtain ⟨s2, p2⟩ := s1.called cp fun a => noOwn_val
          exact c cc d F' H' s2 (p1.trans p2) xr
  | some k =>
    simp only at c
    split at c
    · rename_i i hk
      cases e : frzs (rs.set k (.val .non)) st with
      | none =>
        rw [e] at c
        exact c.elim
      | some q =>
        obtain ⟨as, st1⟩ := q
        rw [e] at c
        simp only at c
        -- the borrowed value
        have hvk : ∃ v, vs[k]? = some v := by
          have hl : rs.length = vs.length := Paired.length h.1
          have kl : k < rs.length := (List.getElem?_eq_some_iff.mp hk).1
          exact ⟨_, List.getElem?_eq_getElem (by omega)⟩
        obtain ⟨v, hvk⟩ := hvk
        obtain ⟨hv, _⟩ := paired_get h.1 hk hvk
        have h' : relA K E Hb F H st σ (rs.set k (.val .non)) (vs.set k .non) := ⟨paired_setBoth (by simp only [RR, Rep]) h.1, tsep_set h.2⟩
        obtain ⟨F1, s1, p1, r1, x1⟩ := frzs_ok s p h' e
        cases eg : getC st1 i with
        | none =>
          rw [eg] at c
          exact c.elim
        | some xs =>
          rw [eg] at c
          simp only at c
          obtain ⟨a, ws, a1, a2, a3, a4, a5, _⟩ := s1.mut eg
          rw [hv] at a1
          cases a1
          have kl : k < vs.length := (List.getElem?_eq_some_iff.mp hvk).1
          have hvk' : (vs ++ dvs)[k]? = some (.ref a) := by
            rw [List.getElem?_append_left kl]
            exact hvk
          have ownOnly : ∀ b, OwnArg (((as ++ dds).map Arg.val).set k (.own xs)) (vs ++ dvs) b → b = a := fun b ⟨j, zs, z1, z2⟩ => by
            rcases get_set z1 with ⟨e1, _⟩ | ⟨n1, z3⟩
            · rw [e1, hvk'] at z2
              cases z2
              rfl
            · exact absurd ⟨j, zs, z3, z2⟩ noOwn_val
          have onlyK : ∀ {j : Nat} {zs : List D}, (((as ++ dds).map Arg.val).set k (.own xs))[j]? = some (.own zs) → j = k := fun {j zs} z => by
            rcases get_set z with ⟨e1, _⟩ | ⟨n1, z3⟩
            · exact e1
            · rw [List.getElem?_map] at z3
              cases q : (as ++ dds)[j]? with
              | none =>
                rw [q] at z3
                cases z3
              | some d =>
                rw [q] at z3
                cases z3
          refine ⟨F1, ((as ++ dds).map Arg.val).set k (.own xs), s1.ex, by rw [List.length_append]; exact hn, paired_set (x := Arg.own xs) (w := V.non) (v := V.ref a) ?_ hvk' (show ArgOk K F1 H (.own xs) (.ref a) from ⟨a, ws, rfl, a2, a3, a4⟩), fun j l xs' ys' b y1 y2 _ _ => by rw [onlyK y1, onlyK y2], ?_⟩
          · rw [List.set_append_left _ _ kl]
            exact args_val (r1.append (hd F1))
          · cases ef : f (((as ++ dds).map Arg.val).set k (.own xs)) with
            | bad =>
              rw [ef] at c
              exact c
            | ok r outs =>
              rw [ef] at c
              simp only at c
              split at c
              · rename_i ys ho
                intro v' F' H' cp ro
                obtain ⟨s2, p2⟩ := s1.calledB cp eg hv hvk' ownOnly ho
                exact c v' F' H' s2 (p1.trans p2) (ret_rr s1 p1 p2.own ro)
              · exact c.elim
            | exc x outs =>
              rw [ef] at c
              simp only at c
              split at c
              · rename_i ys ho
                intro cc d F' H' cp xr
                obtain ⟨s2, p2⟩ := s1.calledB cp eg hv hvk' ownOnly ho
                exact c cc d F' H' s2 (p1.trans p2) xr
              · exact c.elim
    · exact c.elim
end
section
variable {X : Cx} {W : WX}
def dCall (n : Nat) (f : FnD) (dds : List D) (bk : Option Nat) (g : DA) : DX := bnd g (callOp n f dds bk)
theorem de_call {f : FnD} {dds : List D} {dvs : List V} {ds : List Value} {bk : Option Nat} {k : Nat} {fa : Addr} {fd : FuncData} {ps : List Str} {x : Str} {e : Expr} {es : List Expr} {g : DA} {p pos : Pos}
    (G : FnOk X.prog X.w X.K X.mg X.base (L2.CX X.prog X.w) k fa fd ps (spD X.K ps.length f)) (hr : Room k X.A) (tk : Takes X W) (hg : Gl X x) (hm : X.mg x = some (.ref fa)) (hk : PySem.W.keepIn X.K (.ref fa) = true) (hb : Binds X.K fd ps ds) (hd : Vals dvs ds) (hdd : ∀ F, RepL X.K F dds dvs)
    (ha : DAs X W (e :: es) g) (hdb : (x == ("__debug__" : Str)) = false := by decide) (he : starEach (e :: es) X.env = (false, eval e X.env) :: starEach es X.env := by rfl) (hpl : (backTo pos (starEach es X.env)).any (·.1) = false := by rfl) : DE X W (.Call (.Name x p) (e :: es) [] pos) (dCall ps.length f dds bk g) := by
  refine ⟨pe_imp (pe_callSD (E := fun σ c d H => W c d σ H) G hr hg hm hk hb hd (fun σ => passAt tk σ) ha.pa hdb he hpl) fun σ H Q ⟨E, F, st, s, q⟩ => ?_⟩
  refine Rd.first s q fun vs F1 H1 st1 rs s1 p1 h1 q1 => ?_
  exact p_call hdd E F H st F1 H1 st1 σ rs vs Q s1 p1 h1 q1
end
/-! the callee -/
def Arg.toS : Arg → Option S
  | .val d => some (.val d)
  | .own xs => some (.bor xs)
def startD (args : List Arg) (n : Nat) : DSt := args.map Arg.toS ++ List.replicate (n - args.length) none
def outsOf : List Arg → DSt → Option (List (Option (List D)))
  | [], _ => some []
  | .val _ :: as, st => (outsOf as st.tail).map (none :: ·)
  | .own _ :: as, st => match st with
    | some (.bor ys) :: st' => (outsOf as st').map (some ys :: ·)
    | _ => none
def retOf (r : R) (st : DSt) : Option Ret := match r with
  | .val d => some (.val d)
  | .tmp xs => some (.new xs)
  | .at i => match st[i]? with
    | some (some (.val d)) => some (.val d)
    | some (some (.own xs)) => some (.new xs)
    | _ => none
def runD (n : Nat) (body : DS) : FnD := fun args => match body (startD args n) with
  | .nx st => (match outsOf args st with
    | some outs => .ok (.val .non) outs
    | none => .bad)
  | .rt r st => (match retOf r st, outsOf args st with
    | some ret, some outs => .ok ret outs
    | _, _ => .bad)
  | .exc x st => (match outsOf args st with
    | some outs => .exc x outs
    | none => .bad)
  | _ => .bad
theorem outs_get : ∀ {args : List Arg} {st : DSt} {outs : List (Option (List D))} {j : Nat} {ys : List D}, outsOf args st = some outs → outs[j]? = some (some ys) → st[j]? = some (some (.bor ys)) ∧ ∃ xs, args[j]? = some (.own xs)
  | [], st, outs, j, ys, h, e => by
    simp only [outsOf, Option.some.injEq] at h
    subst h
    simp at e
  | .val d :: as, st, outs, j, ys, h, e => by
    simp only [outsOf, Option.map_eq_some_iff] at h
    obtain ⟨os, h1, rfl⟩ := h
    cases j with
    | zero => simp at e
    | succ j =>
      obtain ⟨k1, k2⟩ := outs_get (j := j) h1 (by simpa using e)
      refine ⟨?_, by simpa using k2⟩
      cases st with
      | nil => simp at k1
      | cons x st => simpa using k1
  | .own xs :: as, st, outs, j, ys, h, e => by
    simp only [outsOf] at h
    split at h
    · rename_i zs st'
      simp only [Option.map_eq_some_iff] at h
      obtain ⟨os, h1, rfl⟩ := h
      cases j with
      | zero =>
        simp at e
        subst e
        exact ⟨by simp, xs, by simp⟩
      | succ j =>
        obtain ⟨k1, k2⟩ := outs_get (j := j) h1 (by simpa using e)
        exact ⟨by simpa using k1, by simpa using k2⟩
    · cases h
theorem start_len {args : List Arg} {n : Nat} (h : args.length ≤ n) : (startD args n).length = n := by simp [startD]; omega
theorem startD_get {args : List Arg} {n : Nat} {i : Nat} {z : S} (h : (startD args n)[i]? = some (some z)) : ∃ a, args[i]? = some a ∧ Arg.toS a = some z := by
  unfold startD at h
  by_cases hi : i < args.length
  · rw [List.getElem?_append_left (by simpa using hi), List.getElem?_map, List.getElem?_eq_getElem hi] at h
    exact ⟨_, List.getElem?_eq_getElem hi, Option.some.inj h⟩
  · rw [List.getElem?_append_right (by simpa using hi)] at h
    rw [List.getElem?_replicate] at h
    split at h
    · cases h
    · cases h
theorem start_get {N : List Str} {vs : List V} {i : Nat} {v : V} (h : vs[i]? = some v) : (L2.start N vs)[i]? = some (some v) := by
  unfold L2.start
  have hi := (List.getElem?_eq_some_iff.mp h).1
  rw [List.getElem?_append_left (by simpa using hi), List.getElem?_map, h]
  rfl
theorem paired_right {α β : Type} {G : α → β → Prop} {i : Nat} {a : α} {l : List α} {vs : List β} (p : Paired G l vs) (h : l[i]? = some a) : ∃ v, vs[i]? = some v ∧ G a v := by
  have hl := Paired.length p
  have hi := (List.getElem?_eq_some_iff.mp h).1
  have e : vs[i]? = some vs[i] := List.getElem?_eq_getElem (by omega)
  exact ⟨_, e, paired_get p h e⟩
theorem paired_left {α β : Type} {G : α → β → Prop} {i : Nat} {v : β} {l : List α} {vs : List β} (p : Paired G l vs) (h : vs[i]? = some v) : ∃ a, l[i]? = some a ∧ G a v := by
  have hl := Paired.length p
  have hi := (List.getElem?_eq_some_iff.mp h).1
  have e : l[i]? = some l[i] := List.getElem?_eq_getElem (by omega)
  exact ⟨_, e, paired_get p e h⟩
def entB (args : List Arg) (vs : List V) (i : Nat) : Option Addr := match args[i]?, vs[i]? with
  | some (.own _), some (.ref p) => some p
  | _, _ => none
theorem entB_some {args : List Arg} {vs : List V} {i : Nat} {p : Addr} : entB args vs i = some p ↔ (∃ xs, args[i]? = some (.own xs)) ∧ vs[i]? = some (.ref p) := by
  unfold entB
  constructor
  · intro h
    split at h
    · rename_i xs q h1 h2
      cases h
      exact ⟨⟨xs, h1⟩, h2⟩
    · cases h
  · rintro ⟨⟨xs, h1⟩, h2⟩
    rw [h1, h2]
section
variable {K : PySem.W.Frag} {F H : Hp} {args : List Arg} {vs : List V} {N : List Str}
theorem sr_start (hF : Same F H) (hl : vs.length ≤ N.length) (p : Paired (ArgOk K F H) args vs) (sp : ASep args vs) : SR K ⟨F, H, entB args vs, none⟩ F H (startD args N.length) (L2.start N vs) := by
  have al : args.length = vs.length := Paired.length p
  have ownG : ∀ {i : Nat} {xs : List D}, ((startD args N.length)[i]? = some (some (.own xs)) ∨ (startD args N.length)[i]? = some (some (.bor xs))) → args[i]? = some (.own xs) := fun {i xs} h => by
    rcases h with h | h
    · obtain ⟨a, h1, h2⟩ := startD_get h
      cases a <;> cases h2
    · obtain ⟨a, h1, h2⟩ := startD_get h
      cases a with
      | val d => cases h2
      | own ys =>
        cases h2
        exact h1
  refine ⟨?_, hF, fun i d h => ?_, fun i xs h => ?_, fun i xs h => ?_, fun i j xs ys q h1 h2 h3 h4 => ?_, fun _ _ _ => rfl, Same.refl F, fun a o h _ => h, fun i q h => ?_, (fun i c ns ds h => by
    obtain ⟨a, h1, h2⟩ := startD_get h
    cases a <;> cases h2), (fun i x h => by
    obtain ⟨a, h1, h2⟩ := startD_get h
    cases a <;> cases h2)⟩
  · rw [start_len (by omega)]
    unfold L2.start
    simp
    omega
  · obtain ⟨a, h1, h2⟩ := startD_get h
    cases a with
    | own xs => cases h2
    | val d' =>
      cases h2
      obtain ⟨v, k1, k2⟩ := paired_right p h1
      exact ⟨v, start_get k1, k2⟩
  · obtain ⟨a, h1, h2⟩ := startD_get h
    cases a <;> cases h2
  · have h1 := ownG (.inr h)
    obtain ⟨v, k1, q, us, rfl, k3, k4, k5⟩ := paired_right p h1
    exact ⟨q, us, start_get k1, k3, k4, k5, entB_some.mpr ⟨⟨xs, h1⟩, k1⟩⟩
  · have g1 := ownG h1
    have g2 := ownG h2
    obtain ⟨v1, k1, _⟩ := paired_right p g1
    obtain ⟨v2, k2, _⟩ := paired_right p g2
    rw [start_get k1] at h3
    rw [start_get k2] at h4
    cases h3
    cases h4
    exact sp i j xs ys q g1 g2 k1 k2
  · obtain ⟨⟨xs, h1⟩, h2⟩ := entB_some.mp h
    obtain ⟨v, k1, q', us, e, k3, k4, k5⟩ := paired_right p h1
    rw [h2] at k1
    cases k1
    cases e
    rw [k4]
    exact fun z => nomatch z
theorem cp_end {F' H' : Hp} {st : DSt} {σ : L2.St} {outs : List (Option (List D))} (al : args.length = vs.length) (s : SR K ⟨F, H, entB args vs, none⟩ F' H' st σ) (x : Same F F') (ho : outsOf args st = some outs) : CP K F H args vs F' H' outs := by
  refine ⟨x, s.ex, fun a o h n => ?_, fun j ys p h1 h2 => ?_, fun a h => ?_⟩
  · refine ⟨s.fH a o h fun i z => ?_, s.fF a o h⟩
    obtain ⟨⟨xs, h1⟩, h2⟩ := entB_some.mp z
    exact n ⟨i, xs, h1, h2⟩
  · obtain ⟨k1, xs, k2⟩ := outs_get ho h1
    obtain ⟨q, ws, m1, m2, m3, m4, m5⟩ := s.bor j ys k1
    have e : entB args vs j = some p := entB_some.mpr ⟨⟨xs, k2⟩, h2⟩
    have m5' : entB args vs j = some q := m5
    rw [e] at m5'
    cases m5'
    exact ⟨m2, ws, m3, m4⟩
  · exact s.fresh0 h
theorem ret_end {F' H' : Hp} {E : Ent} {st : DSt} {σ : L2.St} {r : R} {v : V} {ret : Ret} (s : SR K E F' H' st σ) (h : RR K E (fun _ => none) F' H' st σ r v) (e : retOf r st = some ret) : RetOk K E.H0 F' H' ret v := by
  cases r with
  | val d =>
    cases e
    exact h
  | tmp xs =>
    cases e
    obtain ⟨q, us, e1, e2, e3, e4, e5, e6, _⟩ := h
    exact ⟨q, us, e1, e6, e2, e3, e4⟩
  | «at» i =>
    obtain ⟨h1, _⟩ := h
    simp only [retOf] at e
    split at e
    · rename_i d k
      cases e
      obtain ⟨w, m1, m2⟩ := s.val i d k
      rw [h1] at m1
      cases m1
      exact m2
    · rename_i xs k
      cases e
      obtain ⟨q, us, m1, m2, m3, m4, m5⟩ := s.own i xs k
      rw [h1] at m1
      cases m1
      exact ⟨q, us, rfl, m5, m2, m3, m4⟩
    · cases e
theorem rd_run {n : Nat} {body : DS} {Q : VK} {E : XK} (hn : N.length = n) (hl : vs.length ≤ n) (h : ∃ F args, Same F H ∧ Paired (ArgOk K F H) args vs ∧ ASep args vs ∧ match runD n body args with
    | .ok r outs => ∀ v F' H', CP K F H args vs F' H' outs → RetOk K H F' H' r v → Q v H'
    | .exc x outs => ∀ c d F' H', CP K F H args vs F' H' outs → XR K F' x c d → E c d H'
    | .bad => False) : RdS K (fun c d _ H' => E c d H') body { nx := fun _ H' => Q .non H', rt := Q } (L2.start N vs) H := by
  obtain ⟨F, args, hF, pa, sp, h⟩ := h
  subst hn
  refine ⟨⟨F, H, entB args vs, none⟩, F, startD args N.length, sr_start hF hl pa sp, ?_⟩
  have al : args.length = vs.length := Paired.length pa
  unfold runD at h
  cases e : body (startD args N.length) with
  | nx st =>
    rw [e] at h
    simp only at h
    intro σ' F' H' s x
    cases ho : outsOf args st with
    | none =>
      rw [ho] at h
      exact h.elim
    | some outs =>
      rw [ho] at h
      exact h .non F' H' (cp_end al s x ho) (by simp only [RetOk, Rep])
  | rt r st =>
    rw [e] at h
    simp only at h
    intro v σ' F' H' s x rr
    cases hr : retOf r st with
    | none =>
      rw [hr] at h
      exact h.elim
    | some ret =>
      cases ho : outsOf args st with
      | none =>
        rw [hr, ho] at h
        exact h.elim
      | some outs =>
        rw [hr, ho] at h
        exact h v F' H' (cp_end al s x ho) (ret_end s rr hr)
  | exc x st =>
    rw [e] at h
    simp only at h
    intro c d σ' F' H' s x' xr
    cases ho : outsOf args st with
    | none =>
      rw [ho] at h
      exact h.elim
    | some outs =>
      rw [ho] at h
      exact h c d F' H' (cp_end al s x' ho) xr
  | bk st =>
    rw [e] at h
    exact h.elim
  | ct st =>
    rw [e] at h
    exact h.elim
  | bad =>
    rw [e] at h
    exact h.elim
end
/-- THE RULE for a def -/
theorem fn_ok {P : Program} {w : World} {K : PySem.W.Frag} {mg : Str → Option Value} {base : Heap} {x qual : Str} {params : Arguments} {body : List Stmt} {scope : Scope} {dvs : List V} {kws : List (Str × V)} {f : Addr} {fd : FuncData} {N ps : List Str} {k : Nat} {fb : DS}
    (F : FunD K x qual params body scope dvs kws f fd) (S : FnScope N ps scope) (hlen : ps.length ≤ N.length)
    (hb : ∀ (cdv : Value) (A : Around) (outer : List Env) (s : Shared) (H : Hp) (E : XK), Room k (A.deeper (envOfC qual scope s.heap.objs.size f cdv)) →
      DSs (cxOf (L2.CX P w) P w K mg base N qual scope f cdv A outer s H E) (fun c d _ H' => E c d H') body fb) : FnOk P w K mg base (L2.CX P w) (k + 1) f fd ps (spD K ps.length (runD N.length fb)) := by
  refine F.ok S (fun vs H Q E ⟨_, _, _, h, _⟩ => h) fun cdv A outer s H vs Q E hr h => ⟨_, (hb cdv A outer s H E hr).ps, ?_⟩
  obtain ⟨F', args, h1, h2, h3, h4, h5⟩ := h
  exact rd_run rfl (by omega) ⟨F', args, h1, h3, h4, h5⟩
end Dl

namespace Dl
open PySem L2 PySem.Spec PyProof.Rows
variable [ExI]
/-- a def that keeps what its data function says; dds: its defaults that fill up -/
def FnX (P : Program) (w : World) (K : PySem.W.Frag) (mg : Str → Option Value) (base : Heap) (k : Nat) (f : Addr) (ps : List Str) (dds : List D) (fD : FnD) : Prop :=
  ∃ fd ds dvs, FnOk P w K mg base (L2.CX P w) k f fd ps (spD K ps.length fD) ∧ Binds K fd ps ds ∧ Vals dvs ds ∧ (∀ F, RepL K F dds dvs) ∧ PySem.W.keepIn K (.ref f) = true
theorem FnX.mono {P : Program} {w : World} {K : PySem.W.Frag} {mg : Str → Option Value} {base : Heap} {k j : Nat} {f : Addr} {ps : List Str} {dds : List D} {fD : FnD} (h : FnX P w K mg base k f ps dds fD) (l : k ≤ j) : FnX P w K mg base j f ps dds fD := by
  obtain ⟨fd, ds, dvs, h1, h2⟩ := h
  exact ⟨fd, ds, dvs, h1.mono l, h2⟩
theorem fnx0 {P : Program} {w : World} {K : PySem.W.Frag} {mg : Str → Option Value} {base : Heap} {x qual : Str} {params : Arguments} {body : List Stmt} {scope : Scope} {f : Addr} {fd : FuncData} {N ps : List Str} {k : Nat} {fb : DS}
    (F : FunD K x qual params body scope [] [] f fd) (S : FnScope N ps scope) (hlen : ps.length ≤ N.length) (B : Binds K fd ps [])
    (hb : ∀ (cdv : Value) (A : Around) (outer : List Env) (s : Shared) (H : Hp) (E : XK), Room k (A.deeper (envOfC qual scope s.heap.objs.size f cdv)) →
      DSs (cxOf (L2.CX P w) P w K mg base N qual scope f cdv A outer s H E) (fun c d _ H' => E c d H') body fb) : FnX P w K mg base (k + 1) f ps [] (runD N.length fb) :=
  ⟨fd, [], [], fn_ok F S hlen hb, B, .nil, fun F => RepL.nil, F.kp⟩
section
variable {X : Cx} {W : WX} {a b : Expr} {fa fb : DX} {pos p : Pos}
theorem de_callX {fD : FnD} {dds : List D} (bk : Option Nat) {k : Nat} {f : Addr} {ps : List Str} {x : Str} {e : Expr} {es : List Expr} {g : DA}
    (G : FnX X.prog X.w X.K X.mg X.base k f ps dds fD) (hr : Room k X.A) (tk : Takes X W) (hg : Gl X x) (hm : X.mg x = some (.ref f)) (ha : DAs X W (e :: es) g)
    (hdb : (x == ("__debug__" : Str)) = false := by decide) (he : starEach (e :: es) X.env = (false, eval e X.env) :: starEach es X.env := by rfl) (hpl : (backTo pos (starEach es X.env)).any (·.1) = false := by rfl) {n : Nat} (hn : n = ps.length := by rfl) :
    DE X W (.Call (.Name x p) (e :: es) [] pos) (dCall n fD dds bk g) := by
  subst hn
  obtain ⟨fd, ds, dvs, h1, h2, h3, h4, h5⟩ := G
  exact de_call h1 hr tk hg hm h5 h2 h3 h4 ha hdb he hpl
theorem de_len {g : DA} (hg : Gl X "len") (hm : X.mg "len" = none) (ha : DAs X W [a] g) (he : starEach [a] X.env = (false, eval a X.env) :: starEach [] X.env := by rfl) : DE X W (.Call (.Name "len" p) [a] [] pos) (dLen g) :=
  de_callB call_len (pn_on1 p_len) hg hm boot_len ha (by decide) (by decide) he rfl
theorem de_list {g : DA} (hg : Gl X "list") (hm : X.mg "list" = none) (ha : DAs X W [a] g) (he : starEach [a] X.env = (false, eval a X.env) :: starEach [] X.env := by rfl) : DE X W (.Call (.Name "list" p) [a] [] pos) (dList g) :=
  de_callTy call_list_of (pn_on1 p_list) hg hm PyProof.Rows.boot_list ha (by decide) (by decide) he rfl
theorem de_tuple {g : DA} (hg : Gl X "tuple") (hm : X.mg "tuple" = none) (ha : DAs X W [a] g) (he : starEach [a] X.env = (false, eval a X.env) :: starEach [] X.env := by rfl) : DE X W (.Call (.Name "tuple" p) [a] [] pos) (dTuple g) :=
  de_callTy call_tuple_of (pn_on1 p_tuple) hg hm PyProof.Rows.boot_tuple ha (by decide) (by decide) he rfl
theorem de_toint {g : DA} (hg : Gl X "int") (hm : X.mg "int" = none) (ha : DAs X W [a] g) (he : starEach [a] X.env = (false, eval a X.env) :: starEach [] X.env := by rfl) : DE X W (.Call (.Name "int" p) [a] [] pos) (dInt g) :=
  de_callTy call_int1 (pn_on1 p_toint) hg hm PyProof.Rows.boot_int ha (by decide) (by decide) he rfl
def isiON (t : Ty5) : ON := fun rs st => match rs with
  | [r, .val (.ty n)] => if n = t.nm then by1 (isiD t) r st else .bad
  | _ => .bad
theorem pn_isi {K : PySem.W.Frag} (t : Ty5) : PN K W (rIsi K) (isiON t) := by
  intro E Fb Hb stb F H st σ rs vs Q s q ⟨h1, _⟩ c
  unfold isiON at c
  split at c
  · split at c
    · rename_i n hn
      cases h1 with
      | cons k t1 =>
        cases t1 with
        | cons k2 t2 =>
          cases t2
          have e2 := k2
          simp only [RR, Rep] at e2
          subst e2
          subst hn
          exact p_isi t E Fb Hb stb F H st σ _ _ Q s q k c
    · exact c.elim
  · exact c.elim
def dIsi (t : Ty5) (g : DA) : DX := dArgs (isiON t) g
theorem de_isi (t : Ty5) {g : DA} (hg : Gl X "isinstance") (hm : X.mg "isinstance" = none) (ha : DAs X W [a, b] g) (he : starEach [a, b] X.env = (false, eval a X.env) :: starEach [b] X.env := by rfl) (hpl : (backTo pos (starEach [b] X.env)).any (·.1) = false := by rfl) :
    DE X W (.Call (.Name "isinstance" p) [a, b] [] pos) (dIsi t g) := de_callB call_isi (pn_isi t) hg hm boot_isinstance ha (by decide) (by decide) he hpl
/-- a built-in class by its name -/
theorem de_ty {x : Str} {n : String} (hg : Gl X x) (hm : X.mg x = none) (hv : bootBuiltins x = some (.type n)) (hn : x ≠ "__name__" := by decide) (hd : (x == ("__debug__" : Str)) = false := by decide) : DE X W (.Name x p) (dC (.ty n)) :=
  de_const (pe_bltn (v := .ty n) hg hm hv rfl hn hd) fun F => by simp only [Rep]
end
/-! ### the head's facts -/
structure Fx (fa : List He.Fa) (fn : List He.DefD) (K : PySem.W.Frag) (mg : Str → Option Value) : Prop where
  says : He.SaysD fa fn K
  ns : ∃ h : Heap, K.In h ∧ h.Ns mainGlobals mg
theorem Fx.g {fa : List He.Fa} {fn : List He.DefD} {K : PySem.W.Frag} {mg : Str → Option Value} (T : Fx fa fn K mg) (i : Nat) {x : Str} (h : fa[i]? = some (.glo x) := by rfl) : mg x = some (.ref (He.ga K x)) := by
  obtain ⟨h', X, G⟩ := T.ns
  exact He.glo_ok X G (T.says.fact i h)
theorem Fx.f {fa : List He.Fa} {fn : List He.DefD} {K : PySem.W.Frag} {mg : Str → Option Value} (T : Fx fa fn K mg) (i : Nat) {x : Str} (h : fa[i]? = some (.free x) := by rfl) : mg x = none := by
  obtain ⟨h', X, G⟩ := T.ns
  exact He.free_ok X G (T.says.fact i h)
theorem hu65 {k : Nat} {A : Around} (r : Room k A) : A.units + 65 < cLine := by have := r.un; omega
theorem hu64 {k : Nat} {A : Around} (r : Room k A) : A.units + 64 < cLine := r.units
/-- a def that is never called deep enough -/
theorem fnx_bad {P : Program} {w : World} {K : PySem.W.Frag} {mg : Str → Option Value} {base : Heap} {k : Nat} {f : Addr} {fd : FuncData} {ps : List Str} (B : Binds K fd ps []) (kp : PySem.W.keepIn K (.ref f) = true) : FnX P w K mg base k f ps [] (fun _ => .bad) :=
  ⟨fd, [], [], ⟨fun vs H Q E ⟨_, _, _, _, _, _, h⟩ => h.elim, fun A outer s H args us vs Q E _ _ _ _ ⟨_, _, _, _, _, _, h⟩ => h.elim⟩, B, .nil, fun F => RepL.nil, kp⟩
/-! ### a law's end -/
theorem walk_ofX {l : PySem.W.OpenLaw} {n k : Nat} {q : Program} {loose : List Str} {XP : (Str → Option Value) → Heap → Prop} {YP : World → Heap → Prop} {d : DefRec} {x : Str}
    (hn : l.most = some n) (hn2 : n ≤ sizeLine) (hdf : d.params.defaults = []) (hr : Room k callerA)
    (F : ∀ (w : World) (mg : Str → Option Value) (fa : Addr) (h : Heap), YP w h → h.Ns mainGlobals mg → mg d.name = some (.ref fa) →
      ∃ (K : PySem.W.Frag) (fd : FuncData) (fD : FnD), K.In h ∧ (∀ (s : Shared) (u : Value), BindsTo s fd ⟨[u], []⟩ [(x, u)]) ∧
        (∀ ns : List Int, ns.length ≤ n → ∃ outs, fD [.val (.scr (ns.map D.int))] = .ok (.val (.bl true)) outs) ∧
        ∀ base : Heap, K.In base → base.Ns mainGlobals mg → FnOk l.prog w K mg base (L2.CX l.prog w) k fa fd [x] (spD K 1 fD)) :
    PySem.W.WalkO q loose XP YP l.row.toRowW d [] (fun f vs => PySem.call f vs) := by
  refine Att.attach_call hn hdf fun w s₀ s₁ mg mb fa o pm cd doc a vs ns G Y ho hd hcd hmg hobj hints hlen hg => ?_
  obtain ⟨K, fd, fD, KX, hb, hsp, hF⟩ := F w mg fa _ Y G.T.g hmg
  refine law_call KX G.T.g G.T.b G.T.builtins G.T.nolimit hg hobj hints (Nat.le_trans hlen hn2) hr hF hb (fun H hO hS => ?_) fun H e s' z => ?_
  · obtain ⟨outs, e⟩ := hsp ns hlen
    have rl : ∀ ms : List Int, RepL K H (ms.map D.int) (ms.map V.int) := fun ms => by
      induction ms with
      | nil => exact RepL.nil
      | cons m ms ih => exact RepL.cons (by simp only [Rep]) ih
    refine ⟨H, [.val (.scr (ns.map D.int))], Same.refl H, rfl, .cons (show Rep K H (.scr (ns.map D.int)) (.ref a) from ?_) .nil, fun i j xs ys b h1 => ?_, ?_⟩
    · simp only [Rep]
      exact ⟨a, _, rfl, hS, rl ns⟩
    · cases i with
      | zero => cases h1
      | succ i => simp at h1
    · rw [e]
      intro v F' H' _ hr2
      have : Rep K F' (.bl true) v := hr2
      simpa only [Rep] using this
  · obtain ⟨_, _, _, _, _, _, _, _, _, _, _, _, z⟩ := z
    exact z
end Dl

namespace Dl
open PySem L2 PySem.Spec PyProof.Rows
variable [ExI]
/-! ### enumerate of a tuple, of a text -/
set_option maxHeartbeats 1000000 in
theorem meets_enumerate_new1 {v : Value} {o : Obj} {H : Heap → Prop} (B : Begins v o H) :
    Meets (Builtin.«enumerate.__new__» ⟨[.type "enumerate", v], []⟩) (fun _ R s => H s.heap ∧
      R (.ok (.ret (.ref (s.heap.push o).objs.size))) { s with heap := (s.heap.push o).push { cls := .type "enumerate", data := .fields #[.none, .bool false, .ref s.heap.objs.size, rawInt 0, .none, .none] } }) :=
  .of_wp fun prog w A R s h => by
    obtain ⟨hp, g, d, tk, os⟩ := s; obtain ⟨h1, h⟩ := h
    have hsub := sub_enumerate
    have q1 : ∀ {A' : Around} {E : Value → Shared → Prop} {Q : Value → Shared → Prop}, Q (.ref hp.objs.size) ⟨hp.push o, g, d, tk, os⟩ → wpAny (model prog w) A' (pyIter v) Q E ⟨hp, g, d, tk, os⟩ :=
      fun q => B.iter prog w _ _ ⟨hp, g, d, tk, os⟩ _ h1 q
    wp_walk using q1
    refine wpAny_stack_any fun st => wpAny_pure ?_
    split
    · rename_i c _ _ _ _ _
      cases (c == Value.type "enumerate")
      · wp_walk using q1
        exact ⟨_, rfl, h⟩
      · wp_walk using q1
        exact ⟨_, rfl, h⟩
    · wp_walk using q1
      exact ⟨_, rfl, h⟩
theorem call_enum1 {prog : Program} {w : World} {A : Around} {E : Value → Shared → Prop} {s : Shared} {v : Value} {o : Obj} {H : Heap → Prop} {Q : Value → Shared → Prop} (B : Begins v o H) (h1 : H s.heap)
    (h : ∀ h', IsEnum h' (s.heap.objs.size + 1) s.heap.objs.size 0 .none → h'.get? s.heap.objs.size = some o → h'.objs.size = s.heap.objs.size + 2 →
      (∀ b o, s.heap.get? b = some o → h'.get? b = some o) → Q (.ref (s.heap.objs.size + 1)) { s with heap := h' }) :
    wpAny (model prog w) A (call (.type "enumerate") [v]) Q E s := by
  refine callType_new F.called_enumerate (by decide) (F.typeCall_enumerate_1 _) (F.newCall_enumerate_1 _) (fun obj => F.args_object_init_2 obj _) F.entry_enumerate_new
    (meets_enumerate_new1 B) ⟨h1, ?_⟩
  have hz : (s.heap.push o).objs.size = s.heap.objs.size + 1 := Heap.size_push ..
  show _ ∧ _
  rw [hz]
  have he : IsEnum ((s.heap.push o).push { cls := .type "enumerate", data := .fields #[.none, .bool false, .ref s.heap.objs.size, rawInt 0, .none, .none] }) (s.heap.objs.size + 1) s.heap.objs.size 0 .none := by
    have := Heap.get?_push_size (s.heap.push o) (o := { cls := .type "enumerate", data := .fields #[.none, .bool false, .ref s.heap.objs.size, rawInt 0, .none, .none] }) rfl
    rw [hz] at this; exact this
  refine ⟨⟨_, he, rfl⟩, h _ he (Heap.get?_push_of_some _ (Heap.get?_push_size _ B.free)) (by rw [Heap.size_push, hz]) fun b o x => Heap.get?_push_of_some _ (Heap.get?_push_of_some _ x)⟩
/-- the tuple at a, each item in a new pair -/
def IteT (K : PySem.W.Frag) (a : Addr) : It :=
  ⟨fun i H => ∃ (xs : List V) (x : V), SqT K H a xs ∧ xs[i]? = some x, fun i H v H' => ∃ T x, v = .ref T ∧ H T = none ∧ H' = upd H T (.tup [.int (i : Nat), x]) ∧ ∀ xs, SqT K H a xs → xs[i]? = some x, fun i H => ∃ xs : List V, SqT K H a xs ∧ xs.length = i⟩
theorem turn_enumT {P : Program} {w : World} {K : PySem.W.Frag} {elts : List Expr} {kk : Nat} {tpos : Pos} (a e it : Addr) :
    Turn P w K (.Tuple elts kk tpos) (IteT K a) [e, it] e (fun i h => (∃ old, IsEnum h e it ((i : Nat) : Int) old) ∧ h.IsTupleIter it a i ∧ e ≠ it) where
  mem := by simp
  obj := fun i h st b hb => by
    obtain ⟨⟨old, he⟩, ⟨o, ho, hc, hd⟩, _⟩ := st
    have e' : b = e ∨ b = it := by simpa using hb
    rcases e' with z | z
    · rw [z]; exact ⟨_, he, fun v q => nomatch q⟩
    · rw [z]; exact ⟨o, ho, fun v q => by rw [hd] at q; cases q⟩
  keep := fun i h h' st k => let ⟨⟨old, he⟩, hi, hne⟩ := st; ⟨⟨old, k e (by simp) _ he⟩, hi.at fun o q => k it (by simp) o q, hne⟩
  item := by
    intro X hP hw hK hc i pins s σ H E I hf st hg
    subst hP hw hK
    obtain ⟨⟨old, he⟩, hit, hne⟩ := st
    obtain ⟨xs, x, hq, hx⟩ := hg
    obtain ⟨its, rv, p, hz⟩ := I.tuple hq
    obtain ⟨u, hu, ru⟩ := rv.get hx
    have p' : s.heap.IsTuple a its.toArray := p
    have hel : e < s.heap.objs.size := Heap.lt_size he
    have hil : it < s.heap.objs.size := by obtain ⟨_, q, _⟩ := hit; exact Heap.lt_size q
    have hai : a ≠ it := fun z => by
      obtain ⟨o1, q1, c1, _⟩ := p'
      obtain ⟨o2, q2, c2, _⟩ := hit
      rw [z, q2] at q1
      cases q1
      rw [c1] at c2
      exact absurd c2 (by decide)
    have hae : e ≠ a := fun z => by
      obtain ⟨o1, q1, c1, _⟩ := p'
      rw [← z, he] at q1
      cases q1
      exact absurd (show Value.type "enumerate" = Value.type "tuple" from c1) (by decide)
    have hi : i < its.toArray.size := by
      have := (List.getElem?_eq_some_iff.mp hu).1
      simpa using this
    refine wpAny_pyNext_enum_itemD (Draws.tuple (A := X.A.in1) (show X.A.in1.handled = none from I.ok.hd hc) it a hai its.toArray) he ⟨hit, p'⟩ hi hne (by simp [hne, hae]) fun y h' tk hy ho hit' hT hsz hk => ?_
    have ey : y = u := by
      simp only [List.getElem?_toArray] at hy
      rw [hy] at hu
      exact Option.some.inj hu
    subst ey
    refine ⟨_, rfl, wpAny_letOwnedTupleGo_enum (s := { s with heap := h', toks := tk + 1 }) ho fun h'' he' sb => ?_⟩
    have hT2 : h''.get? s.heap.objs.size = some { cls := .type "tuple", data := .seq #[.int i tk, y] } := (sb.2 _ (Nat.ne_of_gt hel)).trans hT
    have new : ObjOk X.prog X.w (upd H s.heap.objs.size (.tup [.int (i : Nat), x])) h'' s.heap.objs.size (.tup [.int (i : Nat), x]) :=
      ⟨by show 2 ≤ sizeLine; decide, [.int i tk, y], .cons ⟨_, rfl⟩ (.cons ru .nil), ⟨_, hT2, rfl, _, rfl⟩⟩
    have I1 : Inv X pins σ (upd H s.heap.objs.size (.tup [.int (i : Nat), x])) { s with heap := h'', toks := tk + 1 } :=
      I.turnedNew (ch := [e, it]) (fun b ob hb q => (sb.2 b (fun z => hb (by simp [z]))).trans (hk b ob (fun z => hb (by simp [z])) (fun z => hb (by simp [z])) q)) hf (Nat.le_refl _) new
    refine ⟨.ref s.heap.objs.size, _, I1, rfl, ⟨_, x, rfl, I.hok.fresh (Nat.le_refl _), rfl, fun ys hy => by rw [I.tuple_inj hy hq]; exact hx⟩, ⟨⟨y, ?_⟩, hit'.1.at fun o q => (sb.2 it (Ne.symm hne)).trans q, hne⟩, fun b hb => ?_⟩
    · have e1 : ((i + 1 : Nat) : Int) = (i : Int) + 1 := by omega
      rw [e1]; exact he'
    · have hb' : b < s.heap.objs.size := by
        have e' : b = e ∨ b = it := by simpa using hb
        rcases e' with z | z
        · rw [z]; exact hel
        · rw [z]; exact hil
      rw [upd_ne (Nat.ne_of_lt hb')]
      exact (hf b hb).1
  done := by
    intro X hP hw hK hc i pins s σ H E I hf st hg
    subst hP hw hK
    obtain ⟨⟨old, he⟩, hit, hne⟩ := st
    obtain ⟨xs, hq, hx⟩ := hg
    obtain ⟨its, rv, p, hz⟩ := I.tuple hq
    obtain ⟨f0, f1, f2, f3, f4, f5⟩ := hf it (by simp)
    have hl := rv.length
    have p' : s.heap.IsTuple a its.toArray := p
    have hai : a ≠ it := fun z => by
      obtain ⟨o1, q1, c1, _⟩ := p'
      obtain ⟨o2, q2, c2, _⟩ := hit
      rw [z, q2] at q1
      cases q1
      rw [c1] at c2
      exact absurd c2 (by decide)
    have ei : i = its.toArray.size := by simp; omega
    subst ei
    exact wpAny_pyNext_enum_endD (Draws.tuple (A := X.A.in1) (show X.A.in1.handled = none from I.ok.hd hc) it a hai its.toArray) he ⟨hit, p'⟩ fun h' eb => ⟨rfl, I.turned (t' := s.toks) (fun b o hb q => eb b o hb q) f0 f1 f3 f4 f5⟩
  self := fun A i s Q E st h => let ⟨⟨_, he⟩, _⟩ := st; wpAny_pyIter_enum he h
def iEnumA (K : PySem.W.Frag) (ta : TA) : TI := fun σ H R => ta σ H fun vs H1 => ∃ a xs, vs = [.ref a] ∧ ((SqL K H1 a xs ∧ R (Ite K a) H1) ∨ (SqT K H1 a xs ∧ R (IteT K a) H1))
theorem pi_enumA {X : Cx} {e : Expr} {ta : TA} {p pos tpos : Pos} {elts : List Expr} {kk : Nat} (hg : Gl X "enumerate") (hm : X.mg "enumerate" = none) (ha : PA X [e] ta) (hs : starEach [e] X.env = [(false, eval e X.env)] := by rfl) :
    PI X (.Tuple elts kk tpos) (.Call (.Name "enumerate" p) [e] [] pos) (iEnumA X.K ta) := by
  refine ⟨fun pins s σ H R I h => ?_⟩
  refine Call_ (ld_blt I hg hm boot_enumerate (PyProof.Rows.callWith_type1 (thn (ha.run pos pins s σ H _ I h) fun us s1 ⟨vs, H1, I1, r1, q1⟩ => ?_) hs rfl))
  obtain ⟨a, xs, ex, q⟩ := q1
  subst ex
  cases r1 with
  | cons r rr =>
    cases rr
    cases r
    have new : ∀ b, b ∈ [s1.heap.objs.size + 1, s1.heap.objs.size] → FpOk X pins H1 b := fun b hb => by
      have e' : b = s1.heap.objs.size + 1 ∨ b = s1.heap.objs.size := by simpa using hb
      have hle : s1.heap.objs.size ≤ b := by
        rcases e' with z | z
        · rw [z]; exact Nat.le_add_right _ _
        · rw [z]; exact Nat.le_refl _
      exact I1.fpOk hle (I1.hok.fresh hle)
    rcases q with ⟨hq, q⟩ | ⟨hq, q⟩
    · obtain ⟨its, rv, p', hz⟩ := I1.list hq
      refine call_enumerate_list p'.isList fun h' he hit hsz hk => wpAny_pyIter_enum he ?_
      have I2 : Inv X pins σ H1 { s1 with heap := h' } := I1.kept (t' := s1.toks) hk
      exact ⟨s1.heap.objs.size + 1, [s1.heap.objs.size + 1, s1.heap.objs.size], _, _, H1, rfl, I2, turn_enum a (s1.heap.objs.size + 1) s1.heap.objs.size, ⟨⟨.none, he⟩, hit, Nat.succ_ne_self _⟩, new, q⟩
    · obtain ⟨its, rv, p', hz⟩ := I1.tuple hq
      refine call_enum1 (begins_tuple a its.toArray) (show s1.heap.IsTuple a its.toArray from p') fun h' he hit hsz hk => wpAny_pyIter_enum he ?_
      have I2 : Inv X pins σ H1 { s1 with heap := h' } := I1.kept (t' := s1.toks) hk
      exact ⟨s1.heap.objs.size + 1, [s1.heap.objs.size + 1, s1.heap.objs.size], _, _, H1, rfl, I2, turn_enumT a (s1.heap.objs.size + 1) s1.heap.objs.size, ⟨⟨.none, he⟩, ⟨_, hit, rfl, rfl⟩, Nat.succ_ne_self _⟩, new, q⟩
/-! ### enumerate, zip: data -/
def enumL (xs : List D) : List D := xs.mapIdx fun i x => .tup [.int (i : Nat), x]
def zipL (xs ys : List D) : List D := List.zipWith (fun x y => .tup [x, y]) xs ys
theorem enumL_get {xs : List D} {i : Nat} : (enumL xs)[i]? = (xs[i]?).map fun x => .tup [.int (i : Nat), x] := by simp [enumL]
theorem enumL_len {xs : List D} : (enumL xs).length = xs.length := by simp [enumL]
theorem zipL_get {xs ys : List D} {i : Nat} {x y : D} (h1 : xs[i]? = some x) (h2 : ys[i]? = some y) : (zipL xs ys)[i]? = some (.tup [x, y]) := by
  simp [zipL, List.getElem?_zipWith, h1, h2]
theorem zipL_len {xs ys : List D} : (zipL xs ys).length = min xs.length ys.length := by simp [zipL]
theorem wd_pair {K : PySem.W.Frag} {F : Hp} {J : It} {xs : List D} {f g : Nat → Option V} (wk : Walk J xs.length (fun H => Same F H) (YPair f g))
    (h : ∀ i v w, i < xs.length → f i = some v → g i = some w → ∃ a b, xs[i]? = some (.tup [a, b]) ∧ Rep K F a v ∧ Rep K F b w) : WD K F J xs := by
  refine ⟨YPair f g, wk, fun i H x H' hi y => ?_⟩
  obtain ⟨T, v, w, h1, h2, h3, h4, h5⟩ := y
  obtain ⟨a, b, k1, k2, k3⟩ := h i v w hi h4 h5
  exact ⟨_, k1, .inr ⟨T, [v, w], [a, b], h1, h2, h3, rfl, RepL.cons k2 (RepL.one k3)⟩⟩
theorem wd_enumL {K : PySem.W.Frag} {F : Hp} {q : Addr} {xs : List D} {vs : List V} (h : F q = some (.lst vs)) (r : RepL K F xs vs) : WD K F (Ite K q) (enumL xs) := by
  refine wd_pair (f := fun i => some (.int (i : Nat))) (g := fun i => vs[i]?) ?_ fun i v w hi h1 h2 => ?_
  · rw [enumL_len, r.length]
    exact walk_enum.mono (fun H hs => SqL.of (hs _ _ h)) fun i H x H' _ _ y => y
  · cases h1
    obtain ⟨d, k1, k2⟩ := r.getV h2
    exact ⟨.int (i : Nat), d, by rw [enumL_get, k1]; rfl, by simp only [Rep], k2⟩
theorem walk_enumT {K : PySem.W.Frag} {a : Addr} {xs : List V} : Walk (IteT K a) xs.length (fun H => SqT K H a xs) (YPair (fun i => some (.int (i : Nat))) (fun i => xs[i]?)) := by
  refine ⟨fun i _ hi q => ⟨xs, xs[i], q, by simp [hi]⟩, fun _ q => ⟨xs, q, rfl⟩, fun i H v H' _ q y => ?_⟩
  obtain ⟨T, x, h1, h2, h3, h4⟩ := y
  exact ⟨T, .int (i : Nat), x, h1, h2, h3, rfl, h4 xs q⟩
theorem wd_enumT {K : PySem.W.Frag} {F : Hp} {q : Addr} {xs : List D} {vs : List V} (h : SqT K F q vs) (r : RepL K F xs vs) : WD K F (IteT K q) (enumL xs) := by
  refine wd_pair (f := fun i => some (.int (i : Nat))) (g := fun i => vs[i]?) ?_ fun i v w hi h1 h2 => ?_
  · rw [enumL_len, r.length]
    exact walk_enumT.mono (fun H hs => sqT_mono hs h) fun i H x H' _ _ y => y
  · cases h1
    obtain ⟨d, k1, k2⟩ := r.getV h2
    exact ⟨.int (i : Nat), d, by rw [enumL_get, k1]; rfl, by simp only [Rep], k2⟩
theorem wd_zipL {K : PySem.W.Frag} {F : Hp} {p q : Addr} {xs ys : List D} {vs ws : List V} (h : F p = some (.lst vs)) (r : RepL K F xs vs) (h' : F q = some (.lst ws)) (r' : RepL K F ys ws) : WD K F (Itz K p q) (zipL xs ys) := by
  refine wd_pair (f := fun i => vs[i]?) (g := fun i => ws[i]?) ?_ fun i v w hi h1 h2 => ?_
  · refine (walk_zip (xs := vs) (ys := ws) (by rw [zipL_len, r.length, r'.length])).mono (fun H hs => ⟨SqL.of (hs _ _ h), SqL.of (hs _ _ h')⟩) fun i H x H' _ _ y => y
  · obtain ⟨d, k1, k2⟩ := r.getV h1
    obtain ⟨d', k1', k2'⟩ := r'.getV h2
    exact ⟨d, d', zipL_get k1 k1', k2, k2'⟩
theorem walk_zipT {K : PySem.W.Frag} {a b : Addr} {xs ys : List V} {n : Nat} (hn : n = min xs.length ys.length) : Walk (RZ.ItzT K a b) n (fun H => SqT K H a xs ∧ SqT K H b ys) (YPair (fun i => xs[i]?) (fun i => ys[i]?)) := by
  subst hn
  refine ⟨fun i _ hi q => ?_, fun _ q => ⟨xs, ys, q.1, q.2, by omega⟩, fun i H v H' _ q y => ?_⟩
  · have h1 : i < xs.length := by omega
    have h2 : i < ys.length := by omega
    exact ⟨xs, ys, xs[i], ys[i], q.1, q.2, by simp [h1], by simp [h2]⟩
  · obtain ⟨T, x, z, h1, h2, h3, h4, h5⟩ := y
    exact ⟨T, x, z, h1, h2, h3, h4 xs q.1, h5 ys q.2⟩
theorem wd_zipT {K : PySem.W.Frag} {F : Hp} {p q : Addr} {xs ys : List D} {vs ws : List V} (h : SqT K F p vs) (r : RepL K F xs vs) (h' : SqT K F q ws) (r' : RepL K F ys ws) : WD K F (RZ.ItzT K p q) (zipL xs ys) := by
  refine wd_pair (f := fun i => vs[i]?) (g := fun i => ws[i]?) ?_ fun i v w hi h1 h2 => ?_
  · refine (walk_zipT (xs := vs) (ys := ws) (by rw [zipL_len, r.length, r'.length])).mono (fun H hs => ⟨sqT_mono hs h, sqT_mono hs h'⟩) fun i H x H' _ _ y => y
  · obtain ⟨d, k1, k2⟩ := r.getV h1
    obtain ⟨d', k1', k2'⟩ := r'.getV h2
    exact ⟨d, d', zipL_get k1 k1', k2, k2'⟩
def itEnum (g : DA) : DIt := bnd g fun rs st => match frzs rs st with
  | some ([.lst xs], st') => .ok (enumL xs) st'
  | some ([.tup xs], st') => .ok (enumL xs) st'
  | _ => .bad
def itZip (g : DA) : DIt := bnd g fun rs st => match frzs rs st with
  | some ([.lst xs, .lst ys], st') => .ok (zipL xs ys) st'
  | some ([.tup xs, .tup ys], st') => .ok (zipL xs ys) st'
  | _ => .bad
section
variable {X : Cx} {W : WX} {a b : Expr} {p pos tpos : Pos} {elts : List Expr} {kk : Nat} {g : DA}
theorem di_enum (hg : Gl X "enumerate") (hm : X.mg "enumerate" = none) (ha : DAs X W [a] g) (hs : starEach [a] X.env = [(false, eval a X.env)] := by rfl) : DI X W (.Tuple elts kk tpos) (.Call (.Name "enumerate" p) [a] [] pos) (itEnum g) := by
  refine ⟨pi_imp (pi_enumA hg hm ha.pa hs) fun σ H R q => RdI.part q fun E F st vs F1 H1 st1 rs s1 p1 h1 q1 => ?_⟩
  split at q1
  · rename_i xs st2 e2
    split at e2
    · rename_i ys st3 e3
      cases e2
      obtain ⟨F2, s2, p2, r2, x2⟩ := frzs_ok s1 p1 h1 e3
      simp only [RepL, Rep] at r2
      obtain ⟨_, _, rfl, ⟨q', vs', rfl, k2, k3⟩, rfl⟩ := r2
      exact ⟨q', vs', rfl, .inl ⟨SqL.of (s2.ex _ _ k2), q1 _ F2 H1 s2 p2 (wd_enumL k2 k3)⟩⟩
    · rename_i ys st3 e3
      cases e2
      obtain ⟨F2, s2, p2, r2, x2⟩ := frzs_ok s1 p1 h1 e3
      simp only [RepL, Rep] at r2
      obtain ⟨_, _, rfl, ⟨q', vs', rfl, k2, k3⟩, rfl⟩ := r2
      exact ⟨q', vs', rfl, .inr ⟨sqT_mono s2.ex k2, q1 _ F2 H1 s2 p2 (wd_enumT k2 k3)⟩⟩
    · cases e2
  · rename_i e2
    split at e2 <;> cases e2
  · exact q1.elim
theorem di_zip (hg : Gl X "zip") (hm : X.mg "zip" = none) (ha : DAs X W [a, b] g) (hs : starEach [a, b] X.env = (false, eval a X.env) :: starEach [b] X.env := by rfl) (hpl : (backTo pos (starEach [b] X.env)).any (·.1) = false := by rfl) : DI X W (.Tuple elts kk tpos) (.Call (.Name "zip" p) [a, b] [] pos) (itZip g) := by
  refine ⟨pi_imp (RZ.pi_zipA hg hm ha.pa hs hpl) fun σ H R q => RdI.part q fun E F st vs F1 H1 st1 rs s1 p1 h1 q1 => ?_⟩
  split at q1
  · rename_i xs st2 e2
    split at e2
    · rename_i ys zs st3 e3
      cases e2
      obtain ⟨F2, s2, p2, r2, x2⟩ := frzs_ok s1 p1 h1 e3
      simp only [RepL, Rep] at r2
      obtain ⟨_, _, rfl, ⟨q', vs', rfl, k2, k3⟩, _, _, rfl, ⟨q'', vs'', rfl, k2', k3'⟩, rfl⟩ := r2
      exact ⟨q', q'', vs', vs'', rfl, .inl ⟨SqL.of (s2.ex _ _ k2), SqL.of (s2.ex _ _ k2'), q1 _ F2 H1 s2 p2 (wd_zipL k2 k3 k2' k3')⟩⟩
    · rename_i ys zs st3 e3
      cases e2
      obtain ⟨F2, s2, p2, r2, x2⟩ := frzs_ok s1 p1 h1 e3
      simp only [RepL, Rep] at r2
      obtain ⟨_, _, rfl, ⟨q', vs', rfl, k2, k3⟩, _, _, rfl, ⟨q'', vs'', rfl, k2', k3'⟩, rfl⟩ := r2
      exact ⟨q', q'', vs', vs'', rfl, .inr ⟨sqT_mono s2.ex k2, sqT_mono s2.ex k2', q1 _ F2 H1 s2 p2 (wd_zipT k2 k3 k2' k3')⟩⟩
    · cases e2
  · rename_i e2
    split at e2 <;> cases e2
  · exact q1.elim
end
end Dl

namespace Dl
open PySem L2 PySem.Spec PyProof.Rows
variable [ExI]
/-! ### [elt for t in .. if .. for t1 in .. if ..] -/
/-- one turn of a comprehension's clause -/
def turnD (t : Tgt) (ft : DT) (fe : DX) (vs : List Nat) (d : D) (acc : List D) (st : DSt) : Option (List D × DSt) :=
  match asgT t d (wipeD st vs) with
    | none => none
    | some st1 => match ft st1 with
      | .ok true st2 => (match fe st2 with
        | .ok r st3 => (match frz1 r st3 with
          | some (x, st4) => if acc.length < lim then some (acc ++ [x], unwipe st st4 vs) else none
          | none => none)
        | _ => none)
      | .ok false st2 => some (acc, unwipe st st2 vs)
      | _ => none
def turnsD (t : Tgt) (ft : DT) (fe : DX) (vs : List Nat) : List D → List D → DSt → Option (List D × DSt)
  | [], acc, st => some (acc, st)
  | d :: ds, acc, st => match turnD t ft fe vs d acc st with
    | some (acc', st') => turnsD t ft fe vs ds acc' st'
    | none => none
def comp2D (t : Tgt) (ft : DT) (fi1 : DIt) (t1 : Tgt) (ft1 : DT) (fe : DX) (vs vs1 : List Nat) : List D → List D → DSt → Out R
  | [], acc, st => .ok (.tmp acc) st
  | d :: ds, acc, st => match asgT t d (wipeD st vs) with
    | none => .bad
    | some st1 => match ft st1 with
      | .ok true st2 => (match fi1 st2 with
        | .ok ys st3 => (match turnsD t1 ft1 fe vs1 ys acc st3 with
          | some (acc', st4) => comp2D t ft fi1 t1 ft1 fe vs vs1 ds acc' (unwipe st st4 vs)
          | none => .bad)
        | _ => .bad)
      | .ok false st2 => comp2D t ft fi1 t1 ft1 fe vs vs1 ds acc (unwipe st st2 vs)
      | _ => .bad
def dLc2 (fi : DIt) (t : Tgt) (ft : DT) (fi1 : DIt) (t1 : Tgt) (ft1 : DT) (fe : DX) (vs vs1 : List Nat) : DX := bnd fi fun xs => comp2D t ft fi1 t1 ft1 fe vs vs1 xs []
/-- the heap without D -/
def cut (H : Hp) (D : Addr) : Hp := fun a => if a = D then none else H a
theorem cut_ne {H : Hp} {D a : Addr} (h : a ≠ D) : cut H D a = H a := if_neg h
theorem cut_self {H : Hp} {D : Addr} : cut H D D = none := if_pos rfl
theorem cut_some {H : Hp} {D a : Addr} {o} (h : cut H D a = some o) : a ≠ D ∧ H a = some o := by
  unfold cut at h
  split at h
  · cases h
  · rename_i n
    exact ⟨n, h⟩
section
variable {K : PySem.W.Frag} {E : Ent} {F H F1 H1 F4 H4 : Hp} {st st1 st4 : DSt} {σ σ2 : L2.St} {vs : List Nat} {D : Addr}
theorem SR.cut (s : SR K E F H st σ) (f : F D = none) (n : ¬ OwnAt st σ D) (hE : E.H0 D = none) (hB : ∀ i, E.B i ≠ some D) : SR K E F (cut H D) st σ := by
  refine ⟨s.len, fun a o h => ?_, s.val, fun i xs h => ?_, fun i xs h => ?_, s.sep, s.fF, s.fE, fun a o h1 h2 => ?_, fun i p h => ?_, s.slf, s.exc⟩
  · rw [cut_ne (fun e => by rw [e, f] at h; cases h)]
    exact s.ex a o h
  · obtain ⟨p, us, k1, k2, k3, k4, k5⟩ := s.own i xs h
    exact ⟨p, us, k1, k2, by rw [cut_ne (fun e => n ⟨i, xs, .inl h, by rw [← e]; exact k1⟩)]; exact k3, k4, k5⟩
  · obtain ⟨p, us, k1, k2, k3, k4, k5⟩ := s.bor i xs h
    exact ⟨p, us, k1, k2, by rw [cut_ne (fun e => n ⟨i, xs, .inr h, by rw [← e]; exact k1⟩)]; exact k3, k4, k5⟩
  · rw [cut_ne (fun e => by rw [e, hE] at h1; cases h1)]
    exact s.fH a o h1 h2
  · rw [cut_ne (fun e => hB i (by rw [← e]; exact h))]
    exact s.fB i p h
theorem Stp.cutL (p : Stp F H st σ F1 H1 st1) : Stp F (cut H D) st σ F1 H1 st1 :=
  ⟨p.ex, fun a o h n => p.keep a o (cut_some h).2 n, p.own, p.dfd, fun a h => by unfold cut; split; rfl; exact p.live a h⟩
theorem Stp.cutR (p : Stp F H st σ F1 H1 st1) (h : H D = none) : Stp F H st σ F1 (cut H1 D) st1 :=
  ⟨p.ex, fun a o h1 n => by
    have e : a ≠ D := fun e => by rw [e, h] at h1; cases h1
    rw [cut_ne e]
    exact p.keep a o h1 n, p.own, p.dfd, fun a h1 => by
    by_cases e : a = D
    · rw [e]; exact h
    · rw [cut_ne e] at h1
      exact p.live a h1⟩
theorem Stp.updR {o : HO} (p : Stp F H st σ F1 H1 st1) (h : H D = none) : Stp F H st σ F1 (upd H1 D o) st1 :=
  ⟨p.ex, fun a u h1 n => by
    have e : a ≠ D := fun e => by rw [e, h] at h1; cases h1
    rw [upd_ne e]
    exact p.keep a u h1 n, p.own, p.dfd, fun a h1 => by
    by_cases e : a = D
    · rw [e]; exact h
    · rw [upd_ne e] at h1
      exact p.live a h1⟩
theorem StpW.cutL (p : StpW F H st σ vs F1 H1 st1 σ2) : StpW F (Dl.cut H D) st σ vs F1 H1 st1 σ2 :=
  ⟨p.ex, fun a o h n => p.keep a o (cut_some h).2 n, p.own, p.dfd, fun a h => by unfold Dl.cut; split; rfl; exact p.live a h, p.out⟩
theorem StpW.cutR (p : StpW F (Dl.cut H D) st σ vs F1 H1 st1 σ2) : StpW F (Dl.cut H D) st σ vs F1 (Dl.cut H1 D) st1 σ2 :=
  ⟨p.ex, fun a o h n => by
    rw [cut_ne (cut_some h).1]
    exact p.keep a o h n, p.own, p.dfd, fun a h => by
    by_cases e : a = D
    · rw [e]; exact cut_self
    · rw [cut_ne e] at h
      exact p.live a h, p.out⟩
end
/-- the list that is being made stands at D -/
def AccD (K : PySem.W.Frag) (E : Ent) (L : Addr) (Fb Hb : Hp) (stb : DSt) (σ : L2.St) (F0 : Hp) (acc : List D) (st : DSt) (H : Hp) : Prop :=
  ∃ F us, SR K E F H st σ ∧ Same F0 F ∧ Stp Fb Hb stb σ F H st ∧ H L = some (.lst us) ∧ RepL K F acc us ∧ F L = none ∧ ¬ OwnAt st σ L
section
variable {K : PySem.W.Frag} {E : Ent} {L : Addr} {Fb Hb F' : Hp} {stb : DSt} {σ : L2.St}
/-- into the block -/
theorem asg_w {F2 H2 : Hp} {st1 st2 : DSt} {σ2 : L2.St} {t : Tgt} {vs : List Nat} {d : D} (hvs : ∀ j ∈ t.slots, j ∈ vs) (ha : asgT t d (wipeD st1 vs) = some st2) (s1 : st1.length = σ.length) (s3 : SR K E F2 H2 st2 σ2) (out : ∀ j, j ∉ t.slots → σ2[j]? = (L2.wipe σ vs)[j]?) :
    σ2.length = σ.length ∧ (∀ j, j ∉ vs → σ2[j]? = σ[j]?) ∧ StpW F2 H2 st1 σ vs F2 H2 st2 σ2 := by
  have hσ : σ2.length = σ.length := by
    rw [← s3.len, (asgT_get (k := 0) ha).1, wipeD_len, s1]
  have outv : ∀ j, j ∉ vs → σ2[j]? = σ[j]? := fun j hj => by
    rw [out j fun z => hj (hvs j z), wipe_out hj]
  refine ⟨hσ, outv, ⟨Same.refl F2, fun a o h _ => ⟨h, rfl⟩, fun p ⟨k, ys, a, b⟩ => ?_, fun k z hz => (asgT_get (k := k) ha).2.2 z hz, fun a h => h, outv⟩⟩
  have g := (asgT_get (k := k) ha).2.1
  have gk : k ∉ t.slots ∧ ((wipeD st1 vs)[k]? = some (some (.own ys)) ∨ (wipeD st1 vs)[k]? = some (some (.bor ys))) := by
    rcases a with a | a
    · rcases g _ a with ⟨d', z⟩ | ⟨z1, z2⟩
      · cases z
      · exact ⟨z1, .inl z2⟩
    · rcases g _ a with ⟨d', z⟩ | ⟨z1, z2⟩
      · cases z
      · exact ⟨z1, .inr z2⟩
  exact ⟨k, ys, gk.2, by rw [← out k gk.1]; exact b⟩
theorem comp_turn {t : Tgt} {ft : DT} {fe : DX} {vs : List Nat} (hvs : ∀ j ∈ t.slots, j ∈ vs) (hE : E.H0 L = none) (hb : Hb L = none) {acc acc' : List D} {st1 st' : DSt} {H1 H2 : Hp} {x : V} {d : D}
    (h : AccD K E L Fb Hb stb σ F' acc st1 H1) (yl : YldD K F' H1 x H2 d) (e : turnD t ft fe vs d acc st1 = some (acc', st')) {N : Hp → Prop} (hN : ∀ H, AccD K E L Fb Hb stb σ F' acc' st' H → N H) :
    RdG K t x (L2.wipe σ vs) H2 fun σ2 H3 => L2.wipe σ2 vs = L2.wipe σ vs ∧ RdT K W0 ft σ2 H3 fun b H4 => if b = true then RdE K W0 fe σ2 H4 fun y H5 => ∃ acc, H5 L = some (.lst acc) ∧ acc.length < sizeLine ∧ N (upd H5 L (.lst (acc ++ [y]))) else N H4 := by
  obtain ⟨F1, us, s1, e1, p1, h1, r1, f1, n1⟩ := h
  obtain ⟨F2, s2, e2, r2, p2⟩ := yld_sr yl s1 e1
  have h2 : H2 L = some (.lst us) ∧ F2 L = F1 L := p2.keep L _ h1 n1
  refine ⟨E, F2, wipeD st1 vs, d, s2.wipe vs, r2, ?_⟩
  unfold turnD at e
  cases ha : asgT t d (wipeD st1 vs) with
  | none =>
    rw [ha] at e
    cases e
  | some st2 =>
    rw [ha] at e
    simp only at e
    intro σ2 s3 out
    obtain ⟨hσ, outv, w3⟩ := asg_w hvs ha s1.len s3 out
    refine ⟨wipe_ext hσ outv, E, F2, st2, s3, ?_⟩
    have nD : ¬ OwnAt (wipeD st1 vs) (L2.wipe σ vs) L := fun z => by
      obtain ⟨k, ys, _, k2, k3⟩ := own_wipe z
      exact n1 ⟨k, ys, k2, k3⟩
    cases hb' : ft st2 with
    | bad =>
      rw [hb'] at e
      cases e
    | exc x st3 =>
      rw [hb'] at e
      cases e
    | ok b st3 =>
      rw [hb'] at e
      cases b with
      | false =>
        simp only [Option.some.injEq, Prod.mk.injEq] at e
        obtain ⟨rfl, rfl⟩ := e
        intro b' F3 H3 s4 p4 rb
        have eb : false = b' := rb
        subst eb
        refine iteF (hN _ ?_)
        have w4 := w3.step p4
        obtain ⟨s5, p5⟩ := s2.unw s4 w4 hσ
        obtain ⟨k1, k2⟩ := w4.keep L _ h2.1 nD
        exact ⟨F3, us, s5, e1.trans (e2.trans p4.ex), (p1.trans p2).trans p5, k1, RepL.mono (e2.trans p4.ex) acc r1, by rw [k2, h2.2]; exact f1, fun z => n1 (p5.own L z)⟩
      | true =>
        simp only at e
        intro b' F3 H3 s4 p4 rb
        have eb : true = b' := rb
        subst eb
        refine iteT ⟨E, F3, st3, s4, ?_⟩
        cases hr : fe st3 with
        | bad =>
          rw [hr] at e
          cases e
        | exc x st4 =>
          rw [hr] at e
          cases e
        | ok r st4 =>
          rw [hr] at e
          simp only at e
          intro v F4 H4 s5 p5 rv
          cases hz : frz1 r st4 with
          | none =>
            rw [hz] at e
            cases e
          | some dq =>
            obtain ⟨dv, st5⟩ := dq
            rw [hz] at e
            simp only at e
            split at e
            · rename_i hlim
              simp only [Option.some.injEq, Prod.mk.injEq] at e
              obtain ⟨rfl, rfl⟩ := e
              have w5 := (w3.step p4).step p5
              obtain ⟨F5, f5, r5⟩ := frz1_ok s5 rv hz
              have w6 : StpW F2 H2 st1 σ vs F5 H4 st5 σ2 := by
                refine ⟨w5.ex.trans f5.ex, fun a o h n => ?_, fun p z => w5.own p (f5.own p z), fun k u z => ?_, w5.live, w5.out⟩
                · obtain ⟨k1, k2⟩ := w5.keep a o h n
                  refine ⟨k1, ?_⟩
                  by_cases ea : F5 a = F4 a
                  · rw [ea]
                    exact k2
                  · exfalso
                    rcases f5.chg a ea with z | ⟨_, _, z⟩
                    · exact n (w5.own a z)
                    · have h3 : H3 a = some o := ((w3.step p4).keep a o h n).1
                      rw [h3] at z
                      cases z
                · obtain ⟨u', kk⟩ := w5.dfd k u z
                  exact f5.dfd k u' kk
              obtain ⟨s6, p6⟩ := s2.unw f5.sr w6 hσ
              obtain ⟨k1, k2⟩ := w6.keep L _ h2.1 nD
              have fD : F5 L = none := by rw [k2, h2.2]; exact f1
              have nOw : ¬ OwnAt (unwipe st1 st5 vs) σ L := fun z => n1 (p6.own L z)
              refine ⟨us, k1, by rw [← r1.length]; exact lim_lt hlim, hN _ ⟨F5, us ++ [v], ?_, e1.trans (e2.trans w6.ex), ?_, upd_same, (RepL.mono (e2.trans w6.ex) acc r1).append (RepL.one r5), fD, nOw⟩⟩
              · refine ⟨s6.len, fun a u z => ?_, s6.val, fun j ys z => ?_, fun j ys z => ?_, s6.sep, s6.fF, s6.fE, fun a u z n => ?_, fun j q2 z => ?_, s6.slf, s6.exc⟩
                · rw [upd_ne (fun y => by rw [y, fD] at z; cases z)]
                  exact s6.ex a u z
                · obtain ⟨p7, ws, m1, m2, m3, m4, m5⟩ := s6.own j ys z
                  exact ⟨p7, ws, m1, m2, by rw [upd_ne (fun y => nOw ⟨j, ys, .inl z, by rw [← y]; exact m1⟩)]; exact m3, m4, m5⟩
                · obtain ⟨p7, ws, m1, m2, m3, m4, m5⟩ := s6.bor j ys z
                  exact ⟨p7, ws, m1, m2, by rw [upd_ne (fun y => nOw ⟨j, ys, .inr z, by rw [← y]; exact m1⟩)]; exact m3, m4, m5⟩
                · have nd : a ≠ L := fun y => by
                    rw [y, hE] at z
                    cases z
                  rw [upd_ne nd]
                  exact s6.fH a u z n
                · unfold upd
                  split
                  · exact fun y => nomatch y
                  · exact s6.fB j q2 z
              · exact ((p1.trans p2).trans p6).updR hb
            · cases e
end
theorem wk2 {J : It} {n : Nat} {G : Hp → Prop} {Y : Nat → Hp → V → Hp → Prop} (wk : Walk J n G Y) (Pv : Nat → Hp → Prop) {Body : V → Hp → (Hp → Prop) → Prop} {Qd : Hp → Prop} {H0 : Hp} (h0 : Pv 0 H0) (hG : ∀ i H, i ≤ n → Pv i H → G H)
    (hs : ∀ i x H H', i < n → Pv i H → Y i H x H' → Body x H' (Pv (i + 1))) (hd : ∀ H, Pv n H → Qd H) :
    ∃ W : Nat → Nat → Hp → Prop, (∃ m, W 0 m H0) ∧ ∀ i m H, W i m H → (J.stop i H ∧ Qd H) ∨ (J.go i H ∧ ∃ Nx : Hp → Prop, (∀ H', Nx H' → ∃ m', m' < m ∧ W (i + 1) m' H') ∧ ∀ x H', J.yld i H x H' → Body x H' Nx) := by
  refine ⟨fun i m H => m = n - i ∧ i ≤ n ∧ Pv i H, ⟨n, by simp, Nat.zero_le _, h0⟩, ?_⟩
  rintro i m H ⟨rfl, hi, p⟩
  have q := hG i H hi p
  by_cases hlt : i < n
  · exact .inr ⟨wk.goes i H hlt q, Pv (i + 1), fun H' p' => ⟨n - (i + 1), by omega, rfl, hlt, p'⟩, fun x H' y => hs i x H H' hlt p (wk.yields i H x H' hlt q y)⟩
  · have e : i = n := by omega
    subst e
    exact .inl ⟨wk.stops H q, hd H p⟩
section
variable {X : Cx} {W : WX} {K : PySem.W.Frag}
theorem turnsD_drop {t : Tgt} {ft : DT} {fe : DX} {vs : List Nat} {ys acc : List D} {st : DSt} {j : Nat} (hj : j < ys.length) {r : List D × DSt} (h : turnsD t ft fe vs (ys.drop j) acc st = some r) :
    ∃ acc' st', turnD t ft fe vs ys[j] acc st = some (acc', st') ∧ turnsD t ft fe vs (ys.drop (j + 1)) acc' st' = some r := by
  rw [List.drop_eq_getElem_cons hj, turnsD] at h
  split at h
  · rename_i acc' st' e
    exact ⟨acc', st', e, h⟩
  · cases h
theorem rd_lc2 {fi fi1 : DIt} {t t1 : Tgt} {ft ft1 : DT} {fe : DX} {vs vs1 : List Nat} (hvs : ∀ j ∈ t.slots, j ∈ vs) (hvs1 : ∀ j ∈ t1.slots, j ∈ vs1) {σ : L2.St} {H : Hp} {Q : VK} (q : RdE K W (dLc2 fi t ft fi1 t1 ft1 fe vs vs1) σ H Q) :
    tLc2 (RdI K W fi) (RdG K t) (RdT K W0 ft) (RdI K W0 fi1) (RdG K t1) (RdT K W0 ft1) (RdE K W0 fe) vs vs1 σ H Q := by
  obtain ⟨E, F, st, s, q⟩ := q
  refine ⟨E, F, st, s, ?_⟩
  unfold dLc2 bnd at q
  cases e : fi st with
  | exc x st' =>
    rw [e] at q
    exact q
  | bad =>
    rw [e] at q
    exact q
  | ok xs st' =>
    rw [e] at q
    simp only at q
    intro J F' H' s' p' wd L hL
    obtain ⟨Y, wk, hy⟩ := wd
    have hE : E.H0 L = none := s'.fresh0 hL
    have hB : ∀ i, E.B i ≠ some L := fun i z => s'.fB i L z hL
    have hH : H L = none := p'.live L hL
    refine wk2 wk (fun i H1 => ∃ acc st1, AccD K E L F H st σ F' acc st1 H1 ∧ Cont K W (RR K) E F H st σ (comp2D t ft fi1 t1 ft1 fe vs vs1 (xs.drop i) acc st1) Q) ?_ ?_ ?_ ?_
    · exact ⟨[], st', ⟨F', [], s'.grow hL, Same.refl F', p'.trans (s'.stpGrow hL), upd_same, RepL.nil, free_F s'.ex hL, s'.notOwn hL⟩, by rw [List.drop_zero]; exact q⟩
    · rintro i H1 _ ⟨acc, st1, ⟨F1, us, s1, e1, _⟩, _⟩
      exact e1.trans s1.ex
    · rintro i x H1 H2 hi ⟨acc, st1, ⟨F1, us, s1, e1, p1, h1, r1, f1, n1⟩, c1⟩ y
      obtain ⟨d, hd, yl⟩ := hy i H1 x H2 hi y
      rw [List.drop_eq_getElem_cons hi] at c1
      have hd' : xs[i] = d := by
        rw [List.getElem?_eq_getElem hi] at hd
        exact Option.some.inj hd
      rw [hd'] at c1
      simp only [comp2D] at c1
      obtain ⟨F2, s2, e2, r2, p2⟩ := yld_sr yl s1 e1
      have h2 : H2 L = some (.lst us) ∧ F2 L = F1 L := p2.keep L _ h1 n1
      refine ⟨E, F2, wipeD st1 vs, d, s2.wipe vs, r2, ?_⟩
      cases ha : asgT t d (wipeD st1 vs) with
      | none =>
        rw [ha] at c1
        exact c1
      | some st2 =>
        rw [ha] at c1
        simp only at c1
        intro σ2 s3 out
        obtain ⟨hσ, outv, w3⟩ := asg_w hvs ha s1.len s3 out
        refine ⟨wipe_ext hσ outv, E, F2, st2, s3, ?_⟩
        have nD : ¬ OwnAt (wipeD st1 vs) (L2.wipe σ vs) L := fun z => by
          obtain ⟨k, ys, _, k2, k3⟩ := own_wipe z
          exact n1 ⟨k, ys, k2, k3⟩
        cases hb' : ft st2 with
        | bad =>
          rw [hb'] at c1
          exact c1
        | exc x st3 =>
          rw [hb'] at c1
          exact c1.elim
        | ok b st3 =>
          rw [hb'] at c1
          cases b with
          | false =>
            simp only at c1
            intro b' F3 H3 s4 p4 rb
            have eb : false = b' := rb
            subst eb
            refine iteF ⟨acc, _, ?_, c1⟩
            have w4 := w3.step p4
            obtain ⟨s5, p5⟩ := s2.unw s4 w4 hσ
            obtain ⟨k1, k2⟩ := w4.keep L _ h2.1 nD
            exact ⟨F3, us, s5, e1.trans (e2.trans p4.ex), (p1.trans p2).trans p5, k1, RepL.mono (e2.trans p4.ex) acc r1, by rw [k2, h2.2]; exact f1, fun z => n1 (p5.own L z)⟩
          | true =>
            simp only at c1
            intro b' F3 H3 s4 p4 rb
            have eb : true = b' := rb
            subst eb
            refine iteT ⟨E, F3, st3, s4, ?_⟩
            cases hr : fi1 st3 with
            | bad =>
              rw [hr] at c1
              exact c1
            | exc x st4 =>
              rw [hr] at c1
              exact c1.elim
            | ok ys st4 =>
              rw [hr] at c1
              simp only at c1
              intro J1 F4 H4 s5 p5 wd1
              obtain ⟨Y1, wk1, hy1⟩ := wd1
              cases ht : turnsD t1 ft1 fe vs1 ys acc st4 with
              | none =>
                rw [ht] at c1
                exact c1.elim
              | some res =>
                obtain ⟨accN, stN⟩ := res
                rw [ht] at c1
                simp only at c1
                have w5 := (w3.step p4).step p5
                obtain ⟨k1, k2⟩ := w5.keep L _ h2.1 nD
                have fL : F4 L = none := by rw [k2, h2.2]; exact f1
                have nL : ¬ OwnAt st4 σ2 L := fun z => nD (w5.own L z)
                have sc : SR K E F4 (cut H4 L) st4 σ2 := s5.cut fL nL hE hB
                refine wk2 wk1 (fun j H5 => ∃ acc5 st5, AccD K E L F4 (cut H4 L) st4 σ2 F4 acc5 st5 H5 ∧ turnsD t1 ft1 fe vs1 (ys.drop j) acc5 st5 = some (accN, stN)) ?_ ?_ ?_ ?_
                · exact ⟨acc, st4, ⟨F4, us, s5, Same.refl F4, (Stp.refl _ _ _ _).cutL, k1, RepL.mono (e2.trans w5.ex) acc r1, fL, nL⟩, by rw [List.drop_zero]; exact ht⟩
                · rintro j H5 _ ⟨acc5, st5, ⟨F5, us5, s6, e6, _⟩, _⟩
                  exact e6.trans s6.ex
                · rintro j x5 H5 H6 hj ⟨acc5, st5, A5, t5⟩ y5
                  obtain ⟨d5, hd5, yl5⟩ := hy1 j H5 x5 H6 hj y5
                  have hd5' : ys[j] = d5 := by
                    rw [List.getElem?_eq_getElem hj] at hd5
                    exact Option.some.inj hd5
                  obtain ⟨acc6, st6, t6, t7⟩ := turnsD_drop hj t5
                  rw [hd5'] at t6
                  exact comp_turn hvs1 hE cut_self A5 yl5 t6 fun H A => ⟨acc6, st6, A, t7⟩
                · rintro H5 ⟨acc5, st5, ⟨F5, us5, s6, e6, p6, h6, r6, f6, n6⟩, t5⟩
                  rw [List.drop_length, turnsD] at t5
                  simp only [Option.some.injEq, Prod.mk.injEq] at t5
                  obtain ⟨rfl, rfl⟩ := t5
                  have w6 : StpW F2 (cut H2 L) st1 σ vs F5 H5 st5 σ2 := (w5.cutL.cutR).step p6
                  have s2c : SR K E F2 (cut H2 L) st1 σ := s2.cut (by rw [h2.2]; exact f1) n1 hE hB
                  obtain ⟨s7, p7⟩ := s2c.unw s6 w6 hσ
                  exact ⟨acc5, _, ⟨F5, us5, s7, e1.trans (e2.trans w6.ex), ((p1.trans p2).cutR hH).trans p7, h6, r6, f6, fun z => n1 (p7.own L z)⟩, c1⟩
    · rintro H1 ⟨acc, st1, ⟨F1, us, s1, e1, p1, h1, r1, f1, n1⟩, c1⟩
      rw [List.drop_length] at c1
      exact c1 (.ref L) F1 H1 s1 p1 ⟨L, us, rfl, f1, h1, r1, n1, hE, hH⟩
variable {tg iter elt tg1 iter1 : Expr} {ifs ifs1 : List Expr} {pos : Pos}
theorem de_lc2 {fi fi1 : DIt} {t t1 : Tgt} {ft ft1 : DT} {fe : DX} {vs1 : List Nat} {scope : Scope} {own : List (Str × Nat)} (hc : X.calm = true) (hN : X.N.Nodup) (hi : DI X W tg iter fi) (ok : BlkOk X.N X.env.scope scope own) (hv : ∀ i ∈ vs1, i ∈ own.map (·.2))
    (hg : ∀ (s : Shared) (H : Hp) (C : Addr) (cl : List (Str × Addr)) (fp : List Addr), DG (X.blk s H scope (compEnvC scope cl C X.env) fp) tg t)
    (ht : ∀ (s : Shared) (H : Hp) (C : Addr) (cl : List (Str × Addr)) (fp : List Addr), DTl (X.blk s H scope (compEnvC scope cl C X.env) fp) W0 ifs ft)
    (hi1 : ∀ (s : Shared) (H : Hp) (C : Addr) (cl : List (Str × Addr)) (fp : List Addr), DI (X.blk s H scope (compEnvC scope cl C X.env) fp) W0 tg1 iter1 fi1)
    (hg1 : ∀ (s : Shared) (H : Hp) (C : Addr) (cl : List (Str × Addr)) (fp : List Addr), DG (X.blk s H scope (compEnvC scope cl C X.env) fp) tg1 t1)
    (ht1 : ∀ (s : Shared) (H : Hp) (C : Addr) (cl : List (Str × Addr)) (fp : List Addr), DTl (X.blk s H scope (compEnvC scope cl C X.env) fp) W0 ifs1 ft1)
    (he : ∀ (s : Shared) (H : Hp) (C : Addr) (cl : List (Str × Addr)) (fp : List Addr), DE (X.blk s H scope (compEnvC scope cl C X.env) fp) W0 elt fe)
    (hvs : ∀ j ∈ t.slots, j ∈ own.map (·.2) := by decide) (hvs1 : ∀ j ∈ t1.slots, j ∈ vs1 := by decide)
    (hs : ∀ x, foldedSetIterable iter X.env x = pure x := by intro _; rfl) (hs1 : ∀ env x, foldedSetIterable iter1 env x = pure x := by intro _ _; rfl) : DE X W (.ListComp elt [⟨tg, iter, ifs, 0⟩, ⟨tg1, iter1, ifs1, 0⟩] scope pos) (dLc2 fi t ft fi1 t1 ft1 fe (own.map (·.2)) vs1) :=
  ⟨pe_imp (pe_lc2 (g := RdG X.K t) (tt := RdT X.K W0 ft) (wi1 := RdI X.K W0 fi1) (g1 := RdG X.K t1) (tt1 := RdT X.K W0 ft1) (te := RdE X.K W0 fe) hc hN hi.pi ok hv (fun s H C cl fp => (hg s H C cl fp).pg) (fun s H C cl fp => (ht s H C cl fp).pt) (fun s H C cl fp => (hi1 s H C cl fp).pi) (fun s H C cl fp => (hg1 s H C cl fp).pg) (fun s H C cl fp => (ht1 s H C cl fp).pt) (fun s H C cl fp => (he s H C cl fp).pe) hs hs1) fun σ H Q q => rd_lc2 hvs hvs1 q⟩
theorem ds_setLc2 {i : Nat} {y : Str} {py spos : Pos} {fi fi1 : DIt} {t t1 : Tgt} {ft ft1 : DT} {fe : DX} {vs1 : List Nat} {scope : Scope} {own : List (Str × Nat)} (hc : X.calm = true) (hN : X.N.Nodup) (hy : X.N[i]? = some y) (hyl : X.env.scope.names.lookup y = some .local)
    (hsw : swapsWith (.ListComp elt [⟨tg, iter, ifs, 0⟩, ⟨tg1, iter1, ifs1, 0⟩] scope pos) (some (.Name y py)) spos.line X.env = pure true) (hi : DI X W tg iter fi) (ok : BlkOk X.N X.env.scope scope own) (hv : ∀ i ∈ vs1, i ∈ own.map (·.2))
    (hg : ∀ (s : Shared) (H : Hp) (C : Addr) (cl : List (Str × Addr)) (fp : List Addr), DG (X.blk s H scope (compEnvC scope cl C X.env) fp) tg t)
    (ht : ∀ (s : Shared) (H : Hp) (C : Addr) (cl : List (Str × Addr)) (fp : List Addr), DTl (X.blk s H scope (compEnvC scope cl C X.env) fp) W0 ifs ft)
    (hi1 : ∀ (s : Shared) (H : Hp) (C : Addr) (cl : List (Str × Addr)) (fp : List Addr), DI (X.blk s H scope (compEnvC scope cl C X.env) fp) W0 tg1 iter1 fi1)
    (hg1 : ∀ (s : Shared) (H : Hp) (C : Addr) (cl : List (Str × Addr)) (fp : List Addr), DG (X.blk s H scope (compEnvC scope cl C X.env) fp) tg1 t1)
    (ht1 : ∀ (s : Shared) (H : Hp) (C : Addr) (cl : List (Str × Addr)) (fp : List Addr), DTl (X.blk s H scope (compEnvC scope cl C X.env) fp) W0 ifs1 ft1)
    (he : ∀ (s : Shared) (H : Hp) (C : Addr) (cl : List (Str × Addr)) (fp : List Addr), DE (X.blk s H scope (compEnvC scope cl C X.env) fp) W0 elt fe)
    (hvs : ∀ j ∈ t.slots, j ∈ own.map (·.2) := by decide) (hvs1 : ∀ j ∈ t1.slots, j ∈ vs1 := by decide)
    (hs : ∀ x, foldedSetIterable iter X.env x = pure x := by intro _; rfl) (hs1 : ∀ env x, foldedSetIterable iter1 env x = pure x := by intro _ _; rfl) : DSj X W (.Assign [.Name y py] (.ListComp elt [⟨tg, iter, ifs, 0⟩, ⟨tg1, iter1, ifs1, 0⟩] scope pos) spos) (dSet i (dLc2 fi t ft fi1 t1 ft1 fe (own.map (·.2)) vs1)) := by
  refine ⟨ps_imp (ps_setLc2 (g := RdG X.K t) (tt := RdT X.K W0 ft) (wi1 := RdI X.K W0 fi1) (g1 := RdG X.K t1) (tt1 := RdT X.K W0 ft1) (te := RdE X.K W0 fe) hc hN hy hyl hsw hi.pi ok hv (fun s H C cl fp => (hg s H C cl fp).pg) (fun s H C cl fp => (ht s H C cl fp).pt) (fun s H C cl fp => (hi1 s H C cl fp).pi) (fun s H C cl fp => (hg1 s H C cl fp).pg) (fun s H C cl fp => (ht1 s H C cl fp).pt) (fun s H C cl fp => (he s H C cl fp).pe) hs hs1) fun D σ H q => ?_⟩
  obtain ⟨E, F, st, s, q⟩ := q
  refine rd_lc2 hvs hvs1 (Rd.part s q fun v F1 H1 st1 r s1 p1 h1 q1 => ?_)
  split at q1
  · rename_i st2 e
    obtain ⟨F2, s2, x2⟩ := asg_ok s1 h1 e
    exact q1 _ F2 H1 s2 x2
  · exact q1.elim
end
end Dl

namespace Dl
open PySem L2 PySem.Spec PyProof.Rows
variable [ExI]
/-! ### positional promises -/
def spR (K : PySem.W.Frag) (f : FnD) : Sp := fun vs H Q E => ∃ F args, Same F H ∧ Paired (ArgOk K F H) args vs ∧ ASep args vs ∧ match f args with
  | .ok r outs => ∀ v F' H', CP K F H args vs F' H' outs → RetOk K H F' H' r v → Q v H'
  | .exc x outs => ∀ c d F' H', CP K F H args vs F' H' outs → XR K F' x c d → E c d H'
  | .bad => False
def FnY (P : Program) (w : World) (K : PySem.W.Frag) (mg : Str → Option Value) (base : Heap) (k : Nat) (f : Addr) (fD : FnD) : Prop := FnR P w K mg base (L2.CX P w) k f (spR K fD)
/-- the defaults fill up -/
def padD (n : Nat) (dds : List D) (f : FnD) : FnD := fun args => if args.length + dds.length = n then f (args ++ dds.map .val) else .bad
theorem paired_app {α β : Type} {G : α → β → Prop} : ∀ {l l' : List α} {vs ws : List β}, Paired G l vs → Paired G l' ws → Paired G (l ++ l') (vs ++ ws)
  | _, _, _, _, .nil, q => q
  | _, _, _, _, .cons h t, q => .cons h (paired_app t q)
theorem ownArg_app {args : List Arg} {dds : List D} {vs ws : List V} {a : Addr} (hl : args.length = vs.length) : OwnArg (args ++ dds.map .val) (vs ++ ws) a ↔ OwnArg args vs a := by
  constructor
  · rintro ⟨j, xs, h1, h2⟩
    by_cases hj : j < args.length
    · rw [List.getElem?_append_left hj] at h1
      rw [List.getElem?_append_left (by omega)] at h2
      exact ⟨j, xs, h1, h2⟩
    · rw [List.getElem?_append_right (by omega), List.getElem?_map] at h1
      cases e : dds[j - args.length]? with
      | none =>
        rw [e] at h1
        cases h1
      | some d =>
        rw [e] at h1
        cases h1
  · rintro ⟨j, xs, h1, h2⟩
    have hj := (List.getElem?_eq_some_iff.mp h1).1
    exact ⟨j, xs, by rw [List.getElem?_append_left hj]; exact h1, by rw [List.getElem?_append_left (by omega)]; exact h2⟩
theorem CP.of {K : PySem.W.Frag} {F H F' H' : Hp} {args args' : List Arg} {vs vs' : List V} {outs : List (Option (List D))} (c : CP K F H args' vs' F' H' outs) (h1 : ∀ a, OwnArg args' vs' a → OwnArg args vs a) (h2 : ∀ (j : Nat) v, vs[j]? = some v → vs'[j]? = some v) : CP K F H args vs F' H' outs :=
  ⟨c.ex, c.exH, fun a o h n => c.keep a o h fun z => n (h1 a z), fun j ys p a b => c.outs j ys p a (h2 j _ b), c.live⟩
section
variable {P : Program} {w : World} {K : PySem.W.Frag} {mg : Str → Option Value} {base : Heap} {k : Nat} {f : Addr}
theorem FnX.y {ps : List Str} {dds : List D} {fD : FnD} (h : FnX P w K mg base k f ps dds fD) : FnY P w K mg base k f (padD ps.length dds fD) := by
  obtain ⟨fd, ds, dvs, h1, h2, h3, h4, _⟩ := h
  refine (h1.raw h2 h3).imp fun vs H Q E ⟨F, args, hF, pa, sp, q⟩ => ?_
  have al : args.length = vs.length := Paired.length pa
  have dl := (h4 F).length
  unfold padD at q
  by_cases hn : args.length + dds.length = ps.length
  case neg =>
    rw [if_neg hn] at q
    exact q.elim
  rw [if_pos hn] at q
  have ow : ∀ {a : Addr}, OwnArg (args ++ dds.map .val) (vs ++ dvs) a ↔ OwnArg args vs a := ownArg_app al
  have vg : ∀ (j : Nat) v, vs[j]? = some v → (vs ++ dvs)[j]? = some v := fun j v h => by
    rw [List.getElem?_append_left (List.getElem?_eq_some_iff.mp h).1]
    exact h
  refine ⟨F, args ++ dds.map .val, hF, by rw [List.length_append]; omega, paired_app pa (args_val (h4 F)), ?_, ?_⟩
  · intro i j xs ys a a1 a2 a3 a4
    have g : ∀ {i : Nat} {xs : List D}, (args ++ dds.map .val)[i]? = some (.own xs) → i < args.length ∧ args[i]? = some (.own xs) := fun {i xs} z => by
      by_cases hi : i < args.length
      · rw [List.getElem?_append_left hi] at z
        exact ⟨hi, z⟩
      · rw [List.getElem?_append_right (by omega), List.getElem?_map] at z
        cases e : dds[i - args.length]? with
        | none =>
          rw [e] at z
          cases z
        | some d =>
          rw [e] at z
          cases z
    obtain ⟨l1, g1⟩ := g a1
    obtain ⟨l2, g2⟩ := g a2
    rw [List.getElem?_append_left (by omega)] at a3 a4
    exact sp i j xs ys a g1 g2 a3 a4
  · cases e : fD (args ++ dds.map .val) with
    | bad =>
      rw [e] at q
      exact q
    | ok r outs =>
      rw [e] at q
      exact fun v F' H' c ro => q v F' H' (c.of (fun a z => ow.mp z) vg) ro
    | exc x outs =>
      rw [e] at q
      exact fun cc d F' H' c xr => q cc d F' H' (c.of (fun a z => ow.mp z) vg) xr
theorem FnY.mono {j : Nat} {fD : FnD} (h : FnY P w K mg base k f fD) (l : k ≤ j) : FnY P w K mg base j f fD := FnR.mono h l
/-- the data of arguments that are all frozen -/
def valsOf : List Arg → Option (List D)
  | [] => some []
  | .val d :: as => (valsOf as).map (d :: ·)
  | _ => none
theorem valsOf_eq : ∀ {as : List Arg} {ds : List D}, valsOf as = some ds → as = ds.map .val
  | [], ds, h => by cases h; rfl
  | .val d :: as, ds, h => by
    simp only [valsOf, Option.map_eq_some_iff] at h
    obtain ⟨es, h1, rfl⟩ := h
    rw [valsOf_eq h1]
    rfl
  | .own xs :: as, ds, h => by cases h
/-- what is left over is a new tuple -/
def starD (np : Nat) (f : FnD) : FnD := fun args => if np ≤ args.length ∧ args.length ≤ lim then (match valsOf (args.drop np) with
  | some ds => f (args.take np ++ [.val (.tup ds)])
  | none => .bad) else .bad
theorem paired_take {α β : Type} {G : α → β → Prop} : ∀ (n : Nat) {l : List α} {vs : List β}, Paired G l vs → Paired G (l.take n) (vs.take n)
  | 0, _, _, _ => by simp only [List.take_zero]; exact .nil
  | n + 1, _, _, .nil => .nil
  | n + 1, _, _, .cons h t => .cons h (paired_take n t)
theorem paired_drop {α β : Type} {G : α → β → Prop} : ∀ (n : Nat) {l : List α} {vs : List β}, Paired G l vs → Paired G (l.drop n) (vs.drop n)
  | 0, _, _, h => h
  | n + 1, _, _, .nil => .nil
  | n + 1, _, _, .cons h t => paired_drop n t
theorem args_rep {F H : Hp} : ∀ {ds : List D} {vs : List V}, Paired (ArgOk K F H) (ds.map .val) vs → RepL K F ds vs
  | [], _, .nil => RepL.nil
  | d :: ds, _, .cons h t => RepL.cons h (args_rep t)
theorem argOk_mono {F H F1 H1 : Hp} (hF : Same F F1) (hH : ∀ a o, H a = some o → F a = none → H1 a = some o ∧ F1 a = none) : ∀ {as : List Arg} {vs : List V}, Paired (ArgOk K F H) as vs → Paired (ArgOk K F1 H1) as vs
  | _, _, .nil => .nil
  | .val d :: _, _, .cons h t => .cons (Rep.mono hF d h) (argOk_mono hF hH t)
  | .own xs :: _, _, .cons h t => .cons (by
      obtain ⟨p, vs, e1, e2, e3, e4⟩ := h
      obtain ⟨k1, k2⟩ := hH p _ e3 e2
      exact ⟨p, vs, e1, k2, k1, RepL.mono hF xs e4⟩) (argOk_mono hF hH t)
theorem lim_size {n : Nat} (h : n ≤ lim) : n ≤ sizeLine := by
  have : lim ≤ sizeLine := by decide
  omega
/-- THE RULE for a def with a star parameter -/
theorem fnStar {x qual pv : Str} {params : Arguments} {body : List Stmt} {scope : Scope} {fd : FuncData} {N ps : List Str} {fb : DS}
    (F : FunD K x qual params body scope [] [] f fd) (S : FnScope N (ps ++ [pv]) scope) (hlen : (ps ++ [pv]).length ≤ N.length)
    (hbi : ∀ (kV doc pm : Value) (an : Option Addr) (cdv ct : Value) (us rest : List Value), us.length = ps.length → bindArgs (PySem.W.fnOf x qual params body scope .none kV doc pm an cdv ct) ⟨us ++ rest, []⟩ = (newTuple rest >>= fun t => pure (ps.zip us ++ [(pv, t)])))
    (hb : ∀ (cdv : Value) (A : Around) (outer : List Env) (s : Shared) (H : Hp) (E : XK), Room k (A.deeper (envOfC qual scope s.heap.objs.size f cdv)) →
      DSs (cxOf (L2.CX P w) P w K mg base N qual scope f cdv A outer s H E) (fun c d _ H' => E c d H') body fb) : FnY P w K mg base (k + 1) f (starD ps.length (runD N.length fb)) := by
  obtain ⟨oc, od, dV, kV, doc, pm, an, cdv, ct, osl, rfl, lk, hcd, hD, _⟩ := F.ex
  have eD : dV = .none := by
    rcases hD with ⟨_, z⟩ | ⟨z, _⟩
    · exact z
    · exact absurd rfl z
  subst eD
  refine FnR.imp (StX.fn_star (sp := spD K (ps ++ [pv]).length (runD N.length fb)) lk hcd S StX.cxUp (hbi kV doc pm an cdv ct) fun A outer s H vs Q E hr h => ⟨_, (hb cdv A outer s H E hr).ps, ?_⟩) fun vs H Q E ⟨F1, args, hF, pa, sp, q⟩ => ?_
  · obtain ⟨F', args, h1, h2, h3, h4, h5⟩ := h
    exact rd_run rfl (by omega) ⟨F', args, h1, h3, h4, h5⟩
  · have al : args.length = vs.length := Paired.length pa
    unfold starD at q
    by_cases hn : ps.length ≤ args.length ∧ args.length ≤ lim
    case neg =>
      rw [if_neg hn] at q
      exact q.elim
    rw [if_pos hn] at q
    cases e : valsOf (args.drop ps.length) with
    | none =>
      rw [e] at q
      exact q.elim
    | some ds =>
      rw [e] at q
      simp only at q
      have e1 := valsOf_eq e
      have rd : RepL K F1 ds (vs.drop ps.length) := args_rep (H := H) (by rw [← e1]; exact paired_drop _ pa)
      have tl : (vs.take ps.length).length = ps.length := by rw [List.length_take]; omega
      refine ⟨vs.take ps.length, vs.drop ps.length, (List.take_append_drop _ _).symm, tl, lim_size (by rw [List.length_drop]; omega), fun p hp => ?_⟩
      have hFp : F1 p = none := free_F hF hp
      have sF : Same F1 (upd F1 p (.tup (vs.drop ps.length))) := fun a u z => by
        rw [upd_ne (ne_of_none z hFp)]
        exact z
      have sH : Same (upd F1 p (.tup (vs.drop ps.length))) (upd H p (.tup (vs.drop ps.length))) := fun a u z => by
        by_cases y : a = p
        · subst y
          rw [upd_same] at z ⊢
          exact z
        · rw [upd_ne y] at z ⊢
          exact hF a u z
      have tlA : (args.take ps.length).length = ps.length := by rw [List.length_take]; omega
      have ow : ∀ {a : Addr}, OwnArg (args.take ps.length ++ [D.tup ds].map .val) (vs.take ps.length ++ [V.ref p]) a ↔ OwnArg (args.take ps.length) (vs.take ps.length) a := ownArg_app (by rw [tl, tlA])
      have owT : ∀ {a : Addr}, OwnArg (args.take ps.length) (vs.take ps.length) a → OwnArg args vs a := fun {a} ⟨j, xs, z1, z2⟩ => by
        rw [List.getElem?_take] at z1 z2
        split at z1
        · rename_i hj
          rw [if_pos hj] at z2
          exact ⟨j, xs, z1, z2⟩
        · cases z1
      have pT : Paired (ArgOk K (upd F1 p (.tup (vs.drop ps.length))) (upd H p (.tup (vs.drop ps.length)))) (args.take ps.length) (vs.take ps.length) := argOk_mono sF (fun a o z1 z2 => by
        have na := ne_of_none z1 hp
        exact ⟨by rw [upd_ne na]; exact z1, by rw [upd_ne na]; exact z2⟩) (paired_take _ pa)
      have rp : Rep K (upd F1 p (.tup (vs.drop ps.length))) (.tup ds) (.ref p) := by
        simp only [Rep]
        exact ⟨p, _, rfl, .inl (.inl upd_same), RepL.mono sF ds rd⟩
      refine ⟨upd F1 p (.tup (vs.drop ps.length)), args.take ps.length ++ [.val (.tup ds)], sH, by rw [List.length_append, List.length_append, tl]; rfl, paired_app pT (.cons (show ArgOk K _ _ (.val (.tup ds)) (.ref p) from rp) .nil), ?_, ?_⟩
      · intro i j xs ys a a1 a2 a3 a4
        have g : ∀ {i : Nat} {xs : List D} {v : V}, (args.take ps.length ++ [Arg.val (.tup ds)])[i]? = some (.own xs) → (vs.take ps.length ++ [V.ref p])[i]? = some v → args[i]? = some (.own xs) ∧ vs[i]? = some v := fun {i xs v} z y => by
          by_cases hi : i < ps.length
          · rw [List.getElem?_append_left (by omega), List.getElem?_take, if_pos hi] at z y
            exact ⟨z, y⟩
          · rw [List.getElem?_append_right (by omega), tlA] at z
            cases hz : i - ps.length with
            | zero =>
              rw [hz] at z
              cases z
            | succ m =>
              rw [hz] at z
              simp at z
        obtain ⟨g1, g3⟩ := g a1 a3
        obtain ⟨g2, g4⟩ := g a2 a4
        exact sp i j xs ys a g1 g2 g3 g4
      · have back : ∀ {F' H' : Hp} {outs : List (Option (List D))}, CP K (upd F1 p (.tup (vs.drop ps.length))) (upd H p (.tup (vs.drop ps.length))) (args.take ps.length ++ [.val (.tup ds)]) (vs.take ps.length ++ [V.ref p]) F' H' outs → (∀ (j : Nat) ys, outs[j]? = some (some ys) → j < ps.length) → CP K F1 H args vs F' H' outs := fun {F' H' outs} c ho => by
          refine ⟨sF.trans c.ex, c.exH, fun a o z n => ?_, fun j ys p' z1 z2 => ?_, fun a z => ?_⟩
          · have na := ne_of_none z hp
            obtain ⟨k1, k2⟩ := c.keep a o (by rw [upd_ne na]; exact z) fun y => n (owT (ow.mp y))
            exact ⟨k1, by rw [k2, upd_ne na]⟩
          · have hj := ho j ys z1
            exact c.outs j ys p' z1 (by rw [List.getElem?_append_left (by omega), List.getElem?_take, if_pos hj]; exact z2)
          · have := c.live a z
            unfold upd at this
            split at this
            · cases this
            · exact this
        have outsL : ∀ {outs : List (Option (List D))}, (∃ r, runD N.length fb (args.take ps.length ++ [.val (.tup ds)]) = .ok r outs) ∨ (∃ x, runD N.length fb (args.take ps.length ++ [.val (.tup ds)]) = .exc x outs) → ∀ (j : Nat) ys, outs[j]? = some (some ys) → j < ps.length := fun {outs} hh j ys z => by
          have ho : ∃ st, outsOf (args.take ps.length ++ [.val (.tup ds)]) st = some outs := by
            rcases hh with ⟨r, hh⟩ | ⟨x, hh⟩
            · unfold runD at hh
              split at hh
              · split at hh
                · rename_i o ho
                  cases hh
                  exact ⟨_, ho⟩
                · cases hh
              · split at hh
                · rename_i o1 o2 ho
                  cases hh
                  exact ⟨_, ho⟩
                · cases hh
              · split at hh <;> cases hh
              · cases hh
            · unfold runD at hh
              split at hh
              · split at hh <;> cases hh
              · split at hh <;> cases hh
              · split at hh
                · rename_i o ho
                  cases hh
                  exact ⟨_, ho⟩
                · cases hh
              · cases hh
          obtain ⟨st, ho⟩ := ho
          obtain ⟨_, xs, k2⟩ := outs_get ho z
          by_cases hj : j < ps.length
          · exact hj
          · rw [List.getElem?_append_right (by omega), tlA] at k2
            cases hz : j - ps.length with
            | zero =>
              rw [hz] at k2
              cases k2
            | succ m =>
              rw [hz] at k2
              simp at k2
        cases er : runD N.length fb (args.take ps.length ++ [.val (.tup ds)]) with
        | bad =>
          rw [er] at q
          exact q
        | ok r outs =>
          rw [er] at q
          intro v F' H' c ro
          refine q v F' H' (back c (outsL (.inl ⟨r, er⟩))) ?_
          cases r with
          | val d => exact ro
          | new zs =>
            obtain ⟨p', us, z1, z2, z3⟩ := ro
            refine ⟨p', us, z1, ?_, z3⟩
            unfold upd at z2
            split at z2
            · cases z2
            · exact z2
        | exc x outs =>
          rw [er] at q
          exact fun cc d F' H' c xr => q cc d F' H' (back c (outsL (.inr ⟨x, er⟩))) xr
end
end Dl

namespace Dl
open PySem L2 PySem.Spec PyProof.Rows
variable [ExI]
/-! ### calls by a positional promise -/
def callY (f : FnD) : ON := fun rs st => match frzs rs st with
  | some (as, st1) => (match f (as.map .val) with
    | .ok r _ => .ok r.toR st1
    | .exc x _ => .exc x st1
    | .bad => .bad)
  | none => .bad
section
variable {K : PySem.W.Frag} {W : WX} {E : Ent} {Fb Hb F H : Hp} {stb st : DSt} {σ : L2.St} {Q : VK}
theorem p_callY {f : FnD} {rs : List R} {vs : List V} (s : SR K E F H st σ) (p : Stp Fb Hb stb σ F H st) (h : relA K E Hb F H st σ rs vs) (c : Cont K W (RR K) E Fb Hb stb σ (callY f rs st) Q) : spR K f vs H Q (fun c d H' => W c d σ H') := by
  unfold callY at c
  cases e : frzs rs st with
  | none =>
    rw [e] at c
    exact c.elim
  | some q =>
    obtain ⟨as, st1⟩ := q
    rw [e] at c
    simp only at c
    obtain ⟨F1, s1, p1, r1, x1⟩ := frzs_ok s p h e
    refine ⟨F1, as.map .val, s1.ex, args_val r1, fun i j xs ys a h1 _ h3 _ => absurd (show OwnArg (as.map .val) vs a from ⟨i, xs, h1, h3⟩) noOwn_val, ?_⟩
    cases ef : f (as.map .val) with
    | bad =>
      rw [ef] at c
      exact c
    | ok r outs =>
      rw [ef] at c
      intro v F' H' cp ro
      obtain ⟨s2, p2⟩ := s1.called cp fun a => noOwn_val
      exact c v F' H' s2 (p1.trans p2) (ret_rr s1 p1 (fun _ z => z) ro)
    | exc x outs =>
      rw [ef] at c
      intro cc d F' H' cp xr
      obtain ⟨s2, p2⟩ := s1.called cp fun a => noOwn_val
      exact c cc d F' H' s2 (p1.trans p2) xr
/-! ### fields -/
def fldOf : List Str → List D → Str → Option D
  | n :: ns, d :: ds, f => if f = n then some d else fldOf ns ds f
  | _, _, _ => none
theorem fldOf_ok {f : Str} : ∀ {ns : List Str} {ds : List D} {vs : List V} {d : D}, RepL K F ds vs → fldOf ns ds f = some d → ∃ v, (ns.zip vs).lookup f = some v ∧ Rep K F d v
  | [], _, _, _, _, h => by simp [fldOf] at h
  | n :: ns, [], _, _, _, h => by simp [fldOf] at h
  | n :: ns, d :: ds, vs, d', r, h => by
    obtain ⟨v, ws, rfl, r1, r2⟩ := repL_cons.mp r
    simp only [fldOf] at h
    by_cases e : f = n
    · rw [if_pos e] at h
      cases h
      refine ⟨v, ?_, r1⟩
      simp [List.lookup, e]
    · rw [if_neg e] at h
      obtain ⟨u, k1, k2⟩ := fldOf_ok r2 h
      refine ⟨u, ?_, k2⟩
      have : (f == n) = false := by simp [e]
      simp only [List.zip_cons_cons, List.lookup, this]
      exact k1
theorem lookup_no {m : Str} : ∀ {ns : List Str} {vs : List V}, ns.contains m = false → (ns.zip vs).lookup m = none
  | [], _, _ => by simp
  | n :: ns, [], _ => by simp
  | n :: ns, v :: vs, h => by
    have h1 : (m == n) = false ∧ ns.contains m = false := by simpa [List.contains_cons] using h
    simp only [List.zip_cons_cons, List.lookup, h1.1]
    exact lookup_no h1.2
/-- an object of the class c: its fields (one that is being made, too) -/
def objOf (c : Str) (r : R) (st : DSt) : Option (List Str × List D) := match r with
  | .val (.obj c' ns ds) => if c' = c then some (ns, ds) else none
  | .at i => (match st[i]? with
    | some (some (.val (.obj c' ns ds))) => if c' = c then some (ns, ds) else none
    | some (some (.slf c' ns ds)) => if c' = c then some (ns, ds) else none
    | _ => none)
  | _ => none
theorem objOf_ok {c : Str} {r : R} {v : V} {ns : List Str} {ds : List D} {B : Hp} (s : SR K E F H st σ) (h : RR K E B F H st σ r v) (e : objOf c r st = some (ns, ds)) : ∃ a dx vs, v = .ref a ∧ H a = some (.ins (He.ga K c) dx (ns.zip vs)) ∧ RepL K F ds vs := by
  have fromObj : ∀ {c' : Str} {ns' : List Str} {ds' : List D}, Rep K F (.obj c' ns' ds') v → (if c' = c then some (ns', ds') else none) = some (ns, ds) → ∃ a dx vs, v = .ref a ∧ H a = some (.ins (He.ga K c) dx (ns.zip vs)) ∧ RepL K F ds vs := fun {c' ns' ds'} q z => by
    split at z
    · rename_i ec
      cases z
      simp only [Rep] at q
      obtain ⟨a, dx, vs, e1, e2, e3, e4⟩ := q
      exact ⟨a, dx, vs, e1, by rw [← ec]; exact s.ex _ _ e2, e4⟩
    · cases z
  unfold objOf at e
  split at e
  · exact fromObj h e
  · rename_i i
    obtain ⟨h1, _⟩ := h
    split at e
    · rename_i k
      obtain ⟨w, q1, q2⟩ := s.val i _ k
      rw [h1] at q1
      cases q1
      exact fromObj q2 e
    · rename_i c' ns' ds' k
      obtain ⟨p, dx, vs, q1, _, q2, q3, q4, q5, q6⟩ := s.slf i _ _ _ k
      rw [h1] at q1
      cases q1
      split at e
      · rename_i ec
        cases e
        exact ⟨p, dx, vs, rfl, by rw [← ec]; exact s.fH p _ q2 q3, RepL.mono s.fE ds q6⟩
      · cases e
    · cases e
  · cases e
/-- the object may also be the callee's first argument -/
def fldOp (c f : Str) : O1 := fun r st => match objOf c r st with
  | some (ns, ds) => (match fldOf ns ds f with
    | some d => .ok (.val d) st
    | none => .bad)
  | none => .bad
end
def dFld (c f : Str) (fo : DX) : DX := bnd fo (fldOp c f)
section
variable {X : Cx} {W : WX} {o a : Expr} {fo : DX} {pos apos : Pos} {f m : Str} {c : Str}
theorem de_fld (he : DE X W o fo) (hc : Cls X.K (He.ga X.K c)) (hn : NoAttr X.K (He.ga X.K c) f) (hb : attributeBase o f X.env (eval o X.env) = eval o X.env := by rfl) : DE X W (.Attribute o f pos) (dFld c f fo) := by
  refine ⟨pe_imp (pe_fld he.pe hb) fun σ H Q ⟨E, F, st, s, q⟩ => ?_⟩
  refine Rd.first s q fun v F1 H1 st1 r s1 p1 h1 q1 => ?_
  unfold fldOp at q1
  cases e : objOf c r st1 with
  | none =>
    rw [e] at q1
    exact q1.elim
  | some z =>
    obtain ⟨ns, ds⟩ := z
    rw [e] at q1
    simp only at q1
    cases e2 : fldOf ns ds f with
    | none =>
      rw [e2] at q1
      exact q1.elim
    | some d =>
      rw [e2] at q1
      obtain ⟨a, dx, vs, rfl, k2, k3⟩ := objOf_ok s1 h1 e
      obtain ⟨w, m1, m2⟩ := fldOf_ok k3 e2
      exact ⟨a, _, dx, _, w, rfl, k2, hc, hn, m1, q1 w F1 H1 s1 p1 m2⟩
/-- a constant of the class, read through an instance -/
def conOp (c f : Str) (d : D) : O1 := fun r st => match objOf c r st with
  | some (ns, _) => if ns.contains f then .bad else .ok (.val d) st
  | none => .bad
def dCon (c f : Str) (d : D) (fo : DX) : DX := bnd fo (conOp c f d)
theorem de_con {d : D} {v : V} {u : Value} (he : DE X W o fo) (hc : Cls X.K (He.ga X.K c)) (hn : Con X.K (He.ga X.K c) f v u) (hv : ∀ F, Rep X.K F d v) (hb : attributeBase o f X.env (eval o X.env) = eval o X.env := by rfl) : DE X W (.Attribute o f pos) (dCon c f d fo) := by
  refine ⟨pe_imp (pe_con he.pe hb) fun σ H Q ⟨E, F, st, s, q⟩ => ?_⟩
  refine Rd.first s q fun v' F1 H1 st1 r s1 p1 h1 q1 => ?_
  unfold conOp at q1
  cases e : objOf c r st1 with
  | none =>
    rw [e] at q1
    exact q1.elim
  | some z =>
    obtain ⟨ns, ds⟩ := z
    rw [e] at q1
    simp only at q1
    cases e2 : ns.contains f with
    | true =>
      rw [e2] at q1
      exact q1.elim
    | false =>
      rw [e2] at q1
      obtain ⟨a, dx, vs, rfl, k2, k3⟩ := objOf_ok s1 h1 e
      exact ⟨a, _, dx, _, v, u, rfl, k2, hc, hn, lookup_no e2, q1 v F1 H1 s1 p1 (hv F1)⟩
end
/-! ### methods -/
section
variable {X : Cx} {pins : List (Addr × Obj)} {σ : L2.St} {H : Hp} {s : Shared}
theorem run_fnRA {CX : CXT} {k : Nat} {f : Addr} {sp : Sp} {E : XK} {Q : VK} {us : List Value} {vs : List V} (F : FnR X.prog X.w X.K X.mg X.base CX k f sp) (hr : Room k X.A) (hx : PassesAt CX X σ E) (I : Inv X pins σ H s) (r : Vals vs us) (h : sp vs H Q E) :
    codeAny (model X.prog X.w) X.A (.call (.ref f) ⟨us, []⟩) (fun r s' => match r with | .ok (.ret v) => EP X pins σ Q v s' | .ok _ => False | .error e => X.xe e s') s := by
  refine codeAny_mono (F X.A X.stack s H us vs Q E hr I.env0 r h) fun r s' hq => ?_
  cases r with
  | error e => exact hx pins H s e s' I hq
  | ok fl =>
    cases fl with
    | ret u => exact I.after hq
    | next => exact False.elim hq
    | brk => exact False.elim hq
    | cont => exact False.elim hq
end
/-- o.m(..) by the receiver's own promise -/
def tMethA (C : Addr) (m : Str) (sp : Sp) (E : L2.St → XK) (ta : TE) (t : TA) : TE := fun σ H Q => ta σ H fun x H1 => ∃ a dx fs, x = .ref a ∧ H1 a = some (.ins C dx fs) ∧ fs.lookup m = none ∧ t σ H1 fun vs H2 => sp (x :: vs) H2 Q (E σ)
section
variable {X : Cx} {W : WX} {CX : CXT} {k : Nat} {C g : Addr} {m : Str} {sp : Sp} {E : L2.St → XK} {o e : Expr} {es : List Expr} {ta : TE} {t : TA} {apos pos : Pos} {pl : Sem Bool}
theorem pe_methA (he : PE X o ta) (c : Cls X.K C) (hm : Meth X.K C m g) (F : FnR X.prog X.w X.K X.mg X.base CX k g sp) (hr : Room k X.A) (hx : ∀ σ, PassesAt CX X σ (E σ)) (ha : PA X (e :: es) t)
    (hst : starEach (e :: es) X.env = (false, eval e X.env) :: starEach es X.env := by rfl) (hpl : (backTo pos (starEach es X.env)).any (·.1) = false := by rfl)
    (ht : eval (.Call (.Attribute o m apos) (e :: es) [] pos) X.env = (do
      let ov ← eval o X.env
      standAt apos.atName
      let (f, first) ← holding [ov] (getMethod ov m pl)
      callWith pos f first (backTo pos (starEach (e :: es) X.env)) (backToKw pos (keywordEach [] X.env))) := by rfl) :
    PE X (.Call (.Attribute o m apos) (e :: es) [] pos) (tMethA C m sp E ta t) := by
  refine ⟨fun pins s σ H Q I h => ?_⟩
  refine PySem.W.methodCall_KW (pl := pl) (thn (he.run pins s σ H _ I h) fun u s1 ⟨x, H1, I1, rx, a, dx, fs, ex, ea, l, q⟩ => ?_) ht
  subst ex
  obtain rfl : u = Value.ref a := rx
  refine getmeth_ok I1 ea c hm l ?_
  refine PySem.W.callWith_K (first := [.ref a]) (h₀ := X.base) I.ok.mod.kin hm.kp (thn (ha.run pos pins s1 σ H1 _ I1 q) fun us s2 ⟨vs, H2, I2, r, q2⟩ => ⟨I2.kIn, ?_⟩) hst hpl
  exact wpAny_call (run_fnRA (us := .ref a :: us) (vs := .ref a :: vs) F hr (hx σ) I2 (.cons rfl r) q2)
theorem pe_methA0 (he : PE X o ta) (c : Cls X.K C) (hm : Meth X.K C m g) (F : FnR X.prog X.w X.K X.mg X.base CX k g sp) (hr : Room k X.A) (hx : ∀ σ, PassesAt CX X σ (E σ))
    (ht : eval (.Call (.Attribute o m apos) [] [] pos) X.env = (do
      let ov ← eval o X.env
      standAt apos.atName
      let (f, first) ← holding [ov] (getMethod ov m pl)
      callWith pos f first (backTo pos (starEach [] X.env)) (backToKw pos (keywordEach [] X.env))) := by rfl) :
    PE X (.Call (.Attribute o m apos) [] [] pos) (tMethA C m sp E ta tNil) := by
  refine ⟨fun pins s σ H Q I h => ?_⟩
  refine PySem.W.methodCall_KW (pl := pl) (thn (he.run pins s σ H _ I h) fun u s1 ⟨x, H1, I1, rx, a, dx, fs, ex, ea, l, q⟩ => ?_) ht
  subst ex
  obtain rfl : u = Value.ref a := rx
  refine getmeth_ok I1 ea c hm l ?_
  exact PySem.W.callWith_K0 (first := [.ref a]) I1.kIn hm.kp (wpAny_call (run_fnRA (us := [.ref a]) (vs := [.ref a]) F hr (hx σ) I1 (.cons rfl .nil) q))
/-- the receiver, then the arguments -/
def dMeth (c m : Str) (f : FnD) (fo : DX) (g : DA) : DX := bnd fo fun r st => match objOf c r st with
  | some (ns, _) => if ns.contains m then .bad else bnd g (fun rs => callY f (r :: rs)) st
  | none => .bad
theorem rd_meth {K : PySem.W.Frag} {c : Str} {f : FnD} {fo : DX} {g : DA} {σ : L2.St} {H : Hp} {Q : VK} (q : RdE K W (dMeth c m f fo g) σ H Q) : tMethA (He.ga K c) m (spR K f) (fun σ c d H' => W c d σ H') (RdE K W fo) (RdA K W g) σ H Q := by
  obtain ⟨E, F, st, s, q⟩ := q
  refine Rd.first s q fun v F1 H1 st1 r s1 p1 h1 q1 => ?_
  cases e : objOf c r st1 with
  | none =>
    rw [e] at q1
    exact q1.elim
  | some z =>
    obtain ⟨ns, ds⟩ := z
    rw [e] at q1
    simp only at q1
    cases e2 : ns.contains m with
    | true =>
      rw [e2] at q1
      exact q1.elim
    | false =>
      rw [e2] at q1
      simp only [Bool.false_eq_true, if_false] at q1
      obtain ⟨a, dx, vs, rfl, k2, k3⟩ := objOf_ok s1 h1 e
      refine ⟨a, dx, _, rfl, k2, lookup_no e2, ?_⟩
      refine Rd.next s1 p1 q1 fun ws F2 H2 st2 rs s2 p2 p h2 q2 => ?_
      exact p_callY s2 p ⟨Paired.cons (h1.step p2) (paired_base p1.live h2.1), tsep_cons h1 h2⟩ q2
theorem de_meth {c : Str} {f : FnD} {fo : DX} {g' : DA} (he : DE X W o fo) (hc : Cls X.K (He.ga X.K c)) (hm : Meth X.K (He.ga X.K c) m g) (G : FnY X.prog X.w X.K X.mg X.base k g f) (hr : Room k X.A) (tk : Takes X W) (ha : DAs X W (e :: es) g')
    (hst : starEach (e :: es) X.env = (false, eval e X.env) :: starEach es X.env := by rfl) (hpl : (backTo pos (starEach es X.env)).any (·.1) = false := by rfl)
    (ht : eval (.Call (.Attribute o m apos) (e :: es) [] pos) X.env = (do
      let ov ← eval o X.env
      standAt apos.atName
      let (f, first) ← holding [ov] (getMethod ov m pl)
      callWith pos f first (backTo pos (starEach (e :: es) X.env)) (backToKw pos (keywordEach [] X.env))) := by rfl) : DE X W (.Call (.Attribute o m apos) (e :: es) [] pos) (dMeth c m f fo g') :=
  ⟨pe_imp (pe_methA (E := fun σ c d H => W c d σ H) he.pe hc hm G hr (fun σ => passAt tk σ) ha.pa hst hpl ht) fun σ H Q q => rd_meth q⟩
theorem de_meth0 {c : Str} {f : FnD} {fo : DX} (he : DE X W o fo) (hc : Cls X.K (He.ga X.K c)) (hm : Meth X.K (He.ga X.K c) m g) (G : FnY X.prog X.w X.K X.mg X.base k g f) (hr : Room k X.A) (tk : Takes X W)
    (ht : eval (.Call (.Attribute o m apos) [] [] pos) X.env = (do
      let ov ← eval o X.env
      standAt apos.atName
      let (f, first) ← holding [ov] (getMethod ov m pl)
      callWith pos f first (backTo pos (starEach [] X.env)) (backToKw pos (keywordEach [] X.env))) := by rfl) : DE X W (.Call (.Attribute o m apos) [] [] pos) (dMeth c m f fo dNil) := by
  refine ⟨pe_imp (pe_methA0 (E := fun σ c d H => W c d σ H) he.pe hc hm G hr (fun σ => passAt tk σ) ht) fun σ H Q q => ?_⟩
  obtain ⟨E, F, st, s, q'⟩ := rd_meth q
  refine ⟨E, F, st, s, Cont.mono q' fun v H1 ⟨a, dx, fs, e1, e2, e3, e4⟩ => ⟨a, dx, fs, e1, e2, e3, ?_⟩⟩
  obtain ⟨E', F', st', s', q4⟩ := e4
  exact q4 [] F' H1 s' (Stp.refl _ _ _ _) ⟨.nil, trivial⟩
end
end Dl

namespace Dl
open PySem L2 PySem.Spec PyProof.Rows
variable [ExI]
/-! ### __init__: the object that is being made stands at slot 0 -/
inductive IOut where
  | ok (ns : List Str) (ds : List D) | exc (x : Exn) | bad
abbrev IFn := List D → IOut
/-- behind a call of __init__ for the object at p -/
structure IP (F H : Hp) (p : Addr) (F' H' : Hp) : Prop where
  ex : Same F F'
  exH : Same F' H'
  keep : ∀ a o, a ≠ p → H a = some o → H' a = some o ∧ F' a = F a
  pF : F' p = none
  pH : H' p ≠ none
  live : ∀ a, H' a = none → H a = none
def spI (K : PySem.W.Frag) (c : Str) (f : IFn) : Sp := fun vs H Q E => ∃ F p dx ws as, vs = .ref p :: ws ∧ H p = some (.ins (He.ga K c) dx []) ∧ F p = none ∧ Same F H ∧ RepL K F as ws ∧ match f as with
  | .ok ns ds => ∀ F' H' dx' us, IP F H p F' H' → H' p = some (.ins (He.ga K c) dx' (ns.zip us)) → ns.length = ds.length → RepL K F' ds us → Q .non H'
  | .exc x => ∀ c' d F' H', IP F H p F' H' → XR K F' x c' d → E c' d H'
  | .bad => False
/-- the entry is told anew: the object at p has changed, nothing else -/
structure EX (p : Addr) (E E' : Ent) : Prop where
  h0 : ∀ a, a ≠ p → E'.H0 a = E.H0 a
  f0 : ∀ a o, E.H0 a = some o → E'.F0 a = E.F0 a
  ff : Same E.F0 E'.F0
  b : E'.B = E.B
  me : E'.me = some p
  ph : ∃ o, E'.H0 p = some o
  pf : E'.F0 p = none
theorem EX.refl {p : Addr} {E : Ent} (me : E.me = some p) (ph : ∃ o, E.H0 p = some o) (pf : E.F0 p = none) : EX p E E := ⟨fun _ _ => rfl, fun _ _ _ => rfl, Same.refl _, rfl, me, ph, pf⟩
theorem EX.trans {p : Addr} {E E1 E2 : Ent} (h : EX p E E1) (h' : EX p E1 E2) (hp : ∃ o, E.H0 p = some o) : EX p E E2 :=
  ⟨fun a n => (h'.h0 a n).trans (h.h0 a n), fun a o z => by
    by_cases e : a = p
    · obtain ⟨o1, z1⟩ := h.ph
      rw [e, h'.f0 p o1 z1, h.f0 p o (by rw [← e]; exact z)]
    · rw [h'.f0 a o (by rw [h.h0 a e]; exact z), h.f0 a o z], h.ff.trans h'.ff, h'.b.trans h.b, h'.me, h'.ph, h'.pf⟩
def ContN (K : PySem.W.Frag) (W : WX) (p : Addr) (E : Ent) (F : Hp) (o : Fl) (D : Ends) : Prop :=
  match o with
  | .nx st => ∀ E' σ' F' H', SR K E' F' H' st σ' → EX p E E' → Same F F' → D.nx σ' H'
  | .exc x st => ∀ c d E' σ' F' H', SR K E' F' H' st σ' → EX p E E' → Same F F' → XR K F' x c d → W c d σ' H'
  | _ => False
def RdN (K : PySem.W.Frag) (W : WX) (f : DS) : TS := fun D σ H => ∃ E F st p, SR K E F H st σ ∧ E.me = some p ∧ (∃ o, E.H0 p = some o) ∧ E.F0 p = none ∧ ContN K W p E F (f st) D
structure DNj (X : Cx) (W : WX) (s : Stmt) (f : DS) : Prop where
  ps : PS X s (RdN X.K W f)
structure DNs (X : Cx) (W : WX) (s : List Stmt) (f : DS) : Prop where
  ps : PSs X s (RdN X.K W f)
theorem ContN.shift {K : PySem.W.Frag} {W : WX} {p : Addr} {E E1 : Ent} {F F1 : Hp} {o : Fl} {D : Ends} (h : ContN K W p E F o D) (e : Same F F1) (x : EX p E E1) (hp : ∃ o, E.H0 p = some o) : ContN K W p E1 F1 o D := by
  cases o with
  | nx st => exact fun E' σ' F' H' s x' e' => h E' σ' F' H' s (x.trans x' hp) (e.trans e')
  | exc y st => exact fun c d E' σ' F' H' s x' e' => h c d E' σ' F' H' s (x.trans x' hp) (e.trans e')
  | bk st => exact h
  | ct st => exact h
  | rt r st => exact h
  | bad => exact h
section
variable {X : Cx} {W : WX} {s : Stmt} {ss : List Stmt}
/-- a statement that does not change the object -/
theorem dn_of {f : DS} (h : DSj X W s f) : DNj X W s f := by
  refine ⟨ps_imp h.ps fun D σ H ⟨E, F, st, p, sr, me, ph, pf, q⟩ => ⟨E, F, st, sr, ?_⟩⟩
  cases e : f st with
  | nx st' =>
    rw [e] at q
    exact fun σ' F' H' s' e' => q E σ' F' H' s' (EX.refl me ph pf) e'
  | exc x st' =>
    rw [e] at q
    exact fun c d σ' F' H' s' e' xr => q c d E σ' F' H' s' (EX.refl me ph pf) e' xr
  | bk st' =>
    rw [e] at q
    exact q.elim
  | ct st' =>
    rw [e] at q
    exact q.elim
  | rt r st' =>
    rw [e] at q
    exact q.elim
  | bad =>
    rw [e] at q
    exact q
theorem dn_one {f : DS} (h : DNj X W s f) : DNs X W [s] f := ⟨pss_one h.ps⟩
theorem dn_cons {f g : DS} (h : DNj X W s f) (hr : DNs X W ss g) : DNs X W (s :: ss) (dSeq f g) := by
  refine ⟨pss_imp (pss_cons h.ps hr.ps) fun D σ H ⟨E, F, st, p, sr, me, ph, pf, q⟩ => ⟨E, F, st, p, sr, me, ph, pf, ?_⟩⟩
  unfold dSeq at q
  cases e : f st with
  | nx st' =>
    rw [e] at q
    exact fun E' σ' F' H' s' x' e' => ⟨E', F', st', p, s', x'.me, x'.ph, x'.pf, q.shift e' x' ph⟩
  | exc x st' =>
    rw [e] at q
    exact q
  | bk st' =>
    rw [e] at q
    exact q
  | ct st' =>
    rw [e] at q
    exact q
  | rt r st' =>
    rw [e] at q
    exact q
  | bad =>
    rw [e] at q
    exact q
end
/-! ### self.f = e -/
def noSlf : DSt → Bool
  | [] => true
  | some (.slf _ _ _) :: _ => false
  | _ :: r => noSlf r
theorem noSlf_ok : ∀ {st : DSt} {i : Nat} {c : Str} {ns : List Str} {ds : List D}, noSlf st = true → st[i]? = some (some (.slf c ns ds)) → False
  | [], i, _, _, _, _, h => by simp at h
  | x :: r, 0, c, ns, ds, h, e => by
    simp at e
    subst e
    simp [noSlf] at h
  | x :: r, i + 1, c, ns, ds, h, e => by
    have h' : noSlf r = true := by
      cases x with
      | none => simpa [noSlf] using h
      | some z =>
        cases z with
        | slf a b c => simp [noSlf] at h
        | _ => simpa [noSlf] using h
    exact noSlf_ok (i := i) h' (by simpa using e)
def putSelf (c f : Str) (d : D) : DSt → Option DSt
  | some (.slf c' ns ds) :: r => if c' = c ∧ ns.contains f = false ∧ ns.length < 100 ∧ ns.length = ds.length ∧ noSlf r = true then some (some (.slf c' (ns ++ [f]) (ds ++ [d])) :: r) else none
  | _ => none
def dSelf (c f : Str) (fe : DX) : DS := toFl fe fun r st => match frz1 r st with
  | some (d, st2) => (match putSelf c f d st2 with
    | some st3 => .nx st3
    | none => .bad)
  | none => .bad
theorem putF_app {f : Str} {y : V} : ∀ {ns : List Str} {vs : List V}, ns.contains f = false → ns.length = vs.length → putF f y (ns.zip vs) = (ns ++ [f]).zip (vs ++ [y])
  | [], [], _, _ => rfl
  | n :: ns, v :: vs, h, hl => by
    have h1 : (f == n) = false ∧ ns.contains f = false := by simpa [List.contains_cons] using h
    have ne : n ≠ f := fun z => by
      rw [z] at h1
      simp at h1
    simp only [List.zip_cons_cons, putF, if_neg ne, List.cons_append]
    rw [putF_app h1.2 (by simpa using hl)]
  | [], v :: vs, _, hl => by simp at hl
  | n :: ns, [], _, hl => by simp at hl
section
variable {K : PySem.W.Frag}
theorem SR.putSelf {E : Ent} {F H : Hp} {st st' : DSt} {σ : L2.St} {c f : Str} {d : D} {v : V} (s : SR K E F H st σ) (r : Rep K F d v) (e : putSelf c f d st = some st') :
    ∃ p dx fs, σ[0]? = some (some (.ref p)) ∧ E.me = some p ∧ H p = some (.ins (He.ga K c) dx fs) ∧ fs.length < 1000 ∧ ∃ E', SR K E' F (upd H p (.ins (He.ga K c) dx (putF f v fs))) st' σ ∧ EX p E E' := by
  unfold Dl.putSelf at e
  split at e
  case h_2 => cases e
  rename_i c' ns ds rest
  split at e
  case isFalse => cases e
  rename_i hc
  obtain ⟨hc1, hc2, hc3, hc4, hc5⟩ := hc
  cases e
  obtain ⟨p, dx, vs, k1, k2, k3, k4, k5, k6, k7⟩ := s.slf 0 c' ns ds rfl
  subst hc1
  have hp : H p = some (.ins (He.ga K c') dx (ns.zip vs)) := s.fH p _ k3 k4
  have hFp : F p = none := by rw [s.fF p _ k3, k5]
  have zl : (ns.zip vs).length < 1000 := by rw [List.length_zip]; omega
  refine ⟨p, dx, ns.zip vs, k1, k2, hp, zl, ⟨F, upd E.H0 p (.ins (He.ga K c') dx (putF f v (ns.zip vs))), E.B, some p⟩, ?_, ⟨fun a n => upd_ne n, fun a o z => s.fF a o z, s.fE, rfl, rfl, ⟨_, upd_same⟩, hFp⟩⟩
  have tailG : ∀ {i : Nat} {z : S}, (some (S.slf c' (ns ++ [f]) (ds ++ [d])) :: rest)[i]? = some (some z) → (∀ a b c, z ≠ .slf a b c) → (some (S.slf c' ns ds) :: rest)[i]? = some (some z) := fun {i z} h n => by
    cases i with
    | zero =>
      simp at h
      exact absurd h.symm (n _ _ _)
    | succ i => simpa using h
  refine ⟨by simpa using s.len, fun a u z => ?_, fun i d' h => s.val i d' (tailG h fun _ _ _ y => nomatch y), fun i xs h => ?_, fun i xs h => ?_, fun i j xs ys q h1 h2 h3 h4 => ?_, fun a o z => rfl, Same.refl F, fun a o z n => ?_, fun i q z => ?_, fun i c2 ns2 ds2 h => ?_, fun i x h => s.exc i x (tailG h fun _ _ _ y => nomatch y)⟩
  · rw [upd_ne (fun y => by rw [y, hFp] at z; cases z)]
    exact s.ex a u z
  · obtain ⟨q, us, m1, m2, m3, m4, m5⟩ := s.own i xs (tailG h fun _ _ _ y => nomatch y)
    have nq : q ≠ p := fun y => by rw [y, k3] at m5; cases m5
    exact ⟨q, us, m1, m2, by rw [upd_ne nq]; exact m3, m4, (upd_ne nq).trans m5⟩
  · obtain ⟨q, us, m1, m2, m3, m4, m5⟩ := s.bor i xs (tailG h fun _ _ _ y => nomatch y)
    have nq : q ≠ p := fun y => k4 i (by rw [← y]; exact m5)
    exact ⟨q, us, m1, m2, by rw [upd_ne nq]; exact m3, m4, m5⟩
  · refine s.sep i j xs ys q ?_ ?_ h3 h4
    · rcases h1 with h1 | h1
      · exact .inl (tailG h1 fun _ _ _ y => nomatch y)
      · exact .inr (tailG h1 fun _ _ _ y => nomatch y)
    · rcases h2 with h2 | h2
      · exact .inl (tailG h2 fun _ _ _ y => nomatch y)
      · exact .inr (tailG h2 fun _ _ _ y => nomatch y)
  · have z' : upd E.H0 p (.ins (He.ga K c') dx (putF f v (ns.zip vs))) a = some o := z
    by_cases y : a = p
    · rw [y, upd_same] at z'
      rw [y, upd_same]
      exact z'
    · rw [upd_ne y] at z' ⊢
      exact s.fH a o z' n
  · unfold upd
    split
    · exact fun y => nomatch y
    · exact s.fB i q z
  · cases i with
    | zero =>
      simp at h
      obtain ⟨rfl, rfl, rfl⟩ := h
      have hl : ns.length = vs.length := k6
      refine ⟨p, dx, vs ++ [v], k1, rfl, ?_, k4, hFp, by simp [hl], (RepL.mono s.fE ds k7).append (RepL.one r)⟩
      show upd E.H0 p _ p = _
      rw [upd_same, putF_app hc2 hl]
    | succ i => exact (noSlf_ok (i := i) hc5 (by simpa using h)).elim
end
section
variable {X : Cx} {W : WX} {value : Expr} {x c f : Str} {np pos pos' : Pos} {fe : DX}
theorem dn_self (hs : PE X (.Name x np) (tVar 0)) (hc : Cls X.K (He.ga X.K c)) (hn : NoAttr X.K (He.ga X.K c) f) (hv : DE X W value fe) (hsw : swapsWith value (some (.Attribute (.Name x np) f pos')) pos.line X.env = pure false := by rfl) :
    DNj X W (.Assign [.Attribute (.Name x np) f pos'] value pos) (dSelf c f fe) := by
  refine ⟨ps_imp (ps_fld hs hv.pe hsw) fun D σ H ⟨E, F, st, p, sr, me, ph, pf, q⟩ => ?_⟩
  refine ⟨E, F, st, sr, ?_⟩
  unfold dSelf toFl at q
  cases e : fe st with
  | bad =>
    rw [e] at q
    exact q
  | exc x st' =>
    rw [e] at q
    exact fun c d F' H' s' p' xr => q c d E σ F' H' s' (EX.refl me ph pf) p'.ex xr
  | ok r st1 =>
    rw [e] at q
    simp only at q
    intro v F1 H1 s1 p1 h1
    cases e2 : frz1 r st1 with
    | none =>
      rw [e2] at q
      exact q.elim
    | some dq =>
      obtain ⟨d, st2⟩ := dq
      rw [e2] at q
      simp only at q
      obtain ⟨F2, f2, r2⟩ := frz1_ok s1 h1 e2
      cases e3 : putSelf c f d st2 with
      | none =>
        rw [e3] at q
        exact q.elim
      | some st3 =>
        rw [e3] at q
        obtain ⟨p', dx, fs, g1, g2, g3, g4, E', s3, x3⟩ := f2.sr.putSelf r2 e3
        have ep : p' = p := by
          rw [me] at g2
          exact (Option.some.inj g2).symm
        subst ep
        exact ⟨.ref p', g1, p', _, dx, fs, rfl, g3, hc, hn, g4, q E' σ F2 _ s3 x3 (p1.ex.trans f2.ex)⟩
end
end Dl

namespace Dl
open PySem L2 PySem.Spec PyProof.Rows
variable [ExI]
/-! ### the rule for __init__ -/
def startI (c : Str) (as : List D) (n : Nat) : DSt := some (.slf c [] []) :: startD (as.map .val) (n - 1)
def selfOf : DSt → Option (Str × List Str × List D)
  | some (.slf c ns ds) :: _ => some (c, ns, ds)
  | _ => none
theorem selfOf_ok {st : DSt} {c : Str} {ns : List Str} {ds : List D} (h : selfOf st = some (c, ns, ds)) : st[0]? = some (some (.slf c ns ds)) := by
  unfold selfOf at h
  split at h
  · cases h
    rfl
  · cases h
def runI (c : Str) (np n : Nat) (body : DS) : IFn := fun as => if as.length + 1 = np then (match body (startI c as n) with
  | .nx st => (match selfOf st with
    | some (c', ns, ds) => if c' = c ∧ ns.length = ds.length then .ok ns ds else .bad
    | none => .bad)
  | .exc x _ => .exc x
  | _ => .bad) else .bad
section
variable {K : PySem.W.Frag} {F H : Hp} {N : List Str}
theorem sr_startI {c : Str} {p dx : Addr} {as : List D} {ws : List V} (hp : H p = some (.ins (He.ga K c) dx [])) (hFp : F p = none) (hF : Same F H) (r : RepL K F as ws) (hl : ws.length + 1 ≤ N.length) :
    SR K ⟨F, H, fun _ => none, some p⟩ F H (startI c as N.length) (L2.start N (.ref p :: ws)) := by
  have al := r.length
  have eσ : L2.start N (.ref p :: ws) = some (.ref p) :: (ws.map some ++ List.replicate (N.length - (ws.length + 1)) none) := rfl
  have eS : startI c as N.length = some (.slf c [] []) :: ((as.map Arg.val).map Arg.toS ++ List.replicate (N.length - 1 - (as.map Arg.val).length) none) := rfl
  have vget : ∀ {i : Nat} {z : S}, ((as.map Arg.val).map Arg.toS ++ List.replicate (N.length - 1 - (as.map Arg.val).length) none)[i]? = some (some z) → ∃ d, as[i]? = some d ∧ z = .val d := fun {i z} h => by
    by_cases hi : i < as.length
    · rw [List.getElem?_append_left (by simpa using hi)] at h
      simp [hi] at h
      exact ⟨as[i], by simp [hi], (Option.some.inj h).symm⟩
    · rw [List.getElem?_append_right (by simp; omega)] at h
      rw [List.getElem?_replicate] at h
      split at h
      · cases h
      · cases h
  have nov : ∀ {i : Nat} {z : S}, (startI c as N.length)[i]? = some (some z) → (i = 0 ∧ z = .slf c [] []) ∨ ∃ j d, i = j + 1 ∧ as[j]? = some d ∧ z = .val d := fun {i z} h => by
    rw [eS] at h
    cases i with
    | zero =>
      simp at h
      exact .inl ⟨rfl, h.symm⟩
    | succ j =>
      obtain ⟨d, h1, h2⟩ := vget (i := j) (by simpa using h)
      exact .inr ⟨j, d, rfl, h1, h2⟩
  refine ⟨?_, hF, fun i d h => ?_, fun i xs h => ?_, fun i xs h => ?_, fun i j xs ys q h1 h2 h3 h4 => ?_, fun _ _ _ => rfl, Same.refl F, fun a o h _ => h, fun i q h => (by cases h), fun i c' ns ds h => ?_, fun i x h => (by
    rcases nov h with ⟨_, z⟩ | ⟨j, d', rfl, z1, z2⟩
    · cases z
    · cases z2)⟩
  · rw [eS, eσ]
    simp
    omega
  · rcases nov h with ⟨_, z⟩ | ⟨j, d', rfl, z1, z2⟩
    · cases z
    · cases z2
      obtain ⟨v, k1, k2⟩ := r.get z1
      refine ⟨v, ?_, k2⟩
      rw [eσ]
      have hj := (List.getElem?_eq_some_iff.mp k1).1
      simp only [List.getElem?_cons_succ]
      rw [List.getElem?_append_left (by simpa using hj), List.getElem?_map, k1]
      rfl
  · rcases nov h with ⟨_, z⟩ | ⟨j, d', rfl, z1, z2⟩
    · cases z
    · cases z2
  · rcases nov h with ⟨_, z⟩ | ⟨j, d', rfl, z1, z2⟩
    · cases z
    · cases z2
  · rcases h1 with h1 | h1 <;> rcases nov h1 with ⟨_, z⟩ | ⟨j, d', rfl, z1, z2⟩
    · cases z
    · cases z2
    · cases z
    · cases z2
  · rcases nov h with ⟨z0, z⟩ | ⟨j, d', rfl, z1, z2⟩
    · cases z
      subst z0
      exact ⟨p, dx, [], rfl, rfl, hp, fun _ z => (by cases z), hFp, rfl, RepL.nil⟩
    · cases z2
theorem ip_end {p : Addr} {E' : Ent} {F' H' : Hp} {st : DSt} {σ : L2.St} (hp : ∃ o, H p = some o) (hFp : F p = none) (s : SR K E' F' H' st σ) (x : EX p ⟨F, H, fun _ => none, some p⟩ E') (e : Same F F') : IP F H p F' H' := by
  have nb : ∀ a i, E'.B i ≠ some a := fun a i z => by
    rw [x.b] at z
    cases z
  obtain ⟨o', ph⟩ := x.ph
  refine ⟨e, s.ex, fun a o n h => ?_, ?_, ?_, fun a h => ?_⟩
  · have h0 : E'.H0 a = some o := by rw [x.h0 a n]; exact h
    exact ⟨s.fH a o h0 (nb a), by rw [s.fF a o h0, x.f0 a o h]⟩
  · rw [s.fF p o' ph, x.pf]
  · rw [s.fH p o' ph (nb p)]
    exact fun z => nomatch z
  · have h0 := s.fresh0 h
    by_cases n : a = p
    · rw [n, ph] at h0
      cases h0
    · rw [x.h0 a n] at h0
      exact h0
theorem rd_runI {c : Str} {np n : Nat} {body : DS} {vs : List V} {Q : VK} {E : XK} (hn : N.length = n) (hnp : np ≤ n) (h : spI K c (runI c np n body) vs H Q E) : RdN K (fun c d _ H' => E c d H') body { nx := fun _ H' => Q .non H', rt := Q } (L2.start N vs) H := by
  obtain ⟨F, p, dx, ws, as, rfl, hp, hFp, hF, r, h⟩ := h
  subst hn
  have al := r.length
  unfold runI at h
  by_cases hl : as.length + 1 = np
  case neg =>
    rw [if_neg hl] at h
    exact h.elim
  rw [if_pos hl] at h
  refine ⟨_, F, startI c as N.length, p, sr_startI hp hFp hF r (by omega), rfl, ⟨_, hp⟩, hFp, ?_⟩
  cases e : body (startI c as N.length) with
  | nx st =>
    rw [e] at h
    simp only at h
    intro E' σ' F' H' s' x' e'
    cases es : selfOf st with
    | none =>
      rw [es] at h
      exact h.elim
    | some z =>
      obtain ⟨c', ns, ds⟩ := z
      rw [es] at h
      simp only at h
      by_cases hc : c' = c ∧ ns.length = ds.length
      case neg =>
        rw [if_neg hc] at h
        exact h.elim
      rw [if_pos hc] at h
      obtain ⟨rfl, hc2⟩ := hc
      obtain ⟨p', dx', us, k1, k2, k3, k4, k5, k6, k7⟩ := s'.slf 0 c' ns ds (selfOf_ok es)
      have ep : p' = p := by
        rw [x'.me] at k2
        exact (Option.some.inj k2).symm
      subst ep
      exact h F' H' dx' us (ip_end ⟨_, hp⟩ hFp s' x' e') (s'.fH p' _ k3 k4) hc2 (RepL.mono s'.fE ds k7)
  | exc x st =>
    rw [e] at h
    exact fun cc d E' σ' F' H' s' x' e' xr => h cc d F' H' (ip_end ⟨_, hp⟩ hFp s' x' e') xr
  | bk st =>
    rw [e] at h
    exact h.elim
  | ct st =>
    rw [e] at h
    exact h.elim
  | rt r st =>
    rw [e] at h
    exact h.elim
  | bad =>
    rw [e] at h
    exact h.elim
end
section
variable {P : Program} {w : World} {K : PySem.W.Frag} {mg : Str → Option Value} {base : Heap} {k : Nat} {f : Addr}
/-- an __init__ that keeps what its data function says -/
def InitY (P : Program) (w : World) (K : PySem.W.Frag) (mg : Str → Option Value) (base : Heap) (k : Nat) (f : Addr) (c : Str) (fI : IFn) : Prop := FnR P w K mg base (L2.CX P w) k f (spI K c fI)
def padI (dds : List D) (f : IFn) : IFn := fun as => f (as ++ dds)
theorem fnInit {x qual c : Str} {params : Arguments} {body : List Stmt} {scope : Scope} {dvs0 : List V} {kws : List (Str × V)} {fd : FuncData} {N ps : List Str} {fb : DS} {ds : List Value} {dvs : List V} {dds : List D}
    (F : FunD K x qual params body scope dvs0 kws f fd) (S : FnScope N ps scope) (hlen : ps.length ≤ N.length) (B : Binds K fd ps ds) (hd : Vals dvs ds) (hdd : ∀ F, RepL K F dds dvs)
    (hb : ∀ (cdv : Value) (A : Around) (outer : List Env) (s : Shared) (H : Hp) (E : XK), Room k (A.deeper (envOfC qual scope s.heap.objs.size f cdv)) →
      DNs (cxOf (L2.CX P w) P w K mg base N qual scope f cdv A outer s H E) (fun c d _ H' => E c d H') body fb) : InitY P w K mg base (k + 1) f c (padI dds (runI c ps.length N.length fb)) := by
  have ok : FnOk P w K mg base (L2.CX P w) (k + 1) f fd ps (fun vs H Q E => vs.length = ps.length ∧ spI K c (runI c ps.length N.length fb) vs H Q E) :=
    F.ok S (fun vs H Q E h => h.1) fun cdv A outer s H vs Q E hr h => ⟨_, (hb cdv A outer s H E hr).ps, rd_runI rfl hlen h.2⟩
  refine (ok.raw B hd).imp fun vs H Q E ⟨F1, p, dx, ws, as, ev, hp, hFp, hF, r, q⟩ => ?_
  subst ev
  have rl := (r.append (hdd F1))
  have hl : (as ++ dds).length + 1 = ps.length := by
    unfold padI runI at q
    by_cases z : (as ++ dds).length + 1 = ps.length
    · exact z
    · rw [if_neg z] at q
      exact q.elim
  refine ⟨?_, F1, p, dx, ws ++ dvs, as ++ dds, rfl, hp, hFp, hF, rl, q⟩
  have := rl.length
  simp only [List.cons_append, List.length_cons]
  omega
/-- __init__(self, a, .., *v) -/
def starI (np : Nat) (f : IFn) : IFn := fun as => if np ≤ as.length + 1 ∧ as.length ≤ lim then f (as.take (np - 1) ++ [.tup (as.drop (np - 1))]) else .bad
theorem fnInitS {x qual c pv s0 : Str} {params : Arguments} {body : List Stmt} {scope : Scope} {fd : FuncData} {N ps : List Str} {fb : DS}
    (F : FunD K x qual params body scope [] [] f fd) (S : FnScope N (s0 :: ps ++ [pv]) scope) (hlen : (s0 :: ps ++ [pv]).length ≤ N.length)
    (hbi : ∀ (kV doc pm : Value) (an : Option Addr) (cdv ct : Value) (us rest : List Value), us.length = (s0 :: ps).length → bindArgs (PySem.W.fnOf x qual params body scope .none kV doc pm an cdv ct) ⟨us ++ rest, []⟩ = (newTuple rest >>= fun t => pure ((s0 :: ps).zip us ++ [(pv, t)])))
    (hb : ∀ (cdv : Value) (A : Around) (outer : List Env) (s : Shared) (H : Hp) (E : XK), Room k (A.deeper (envOfC qual scope s.heap.objs.size f cdv)) →
      DNs (cxOf (L2.CX P w) P w K mg base N qual scope f cdv A outer s H E) (fun c d _ H' => E c d H') body fb) : InitY P w K mg base (k + 1) f c (starI (s0 :: ps).length (runI c (s0 :: ps ++ [pv]).length N.length fb)) := by
  obtain ⟨oc, od, dV, kV, doc, pm, an, cdv, ct, osl, rfl, lk, hcd, hD, _⟩ := F.ex
  have eD : dV = .none := by
    rcases hD with ⟨_, z⟩ | ⟨z, _⟩
    · exact z
    · exact absurd rfl z
  subst eD
  refine FnR.imp (StX.fn_star (ps := s0 :: ps) (sp := spI K c (runI c (s0 :: ps ++ [pv]).length N.length fb)) lk hcd S StX.cxUp (hbi kV doc pm an cdv ct) fun A outer s H vs Q E hr h => ⟨_, (hb cdv A outer s H E hr).ps, rd_runI rfl hlen h⟩) fun vs H Q E ⟨F1, p, dx, ws, as, ev, hp, hFp, hF, r, q⟩ => ?_
  subst ev
  have al := r.length
  unfold starI at q
  by_cases hn : (s0 :: ps).length ≤ as.length + 1 ∧ as.length ≤ lim
  case neg =>
    rw [if_neg hn] at q
    exact q.elim
  rw [if_pos hn] at q
  have pl : (s0 :: ps).length = ps.length + 1 := rfl
  have p1 : (s0 :: ps).length - 1 = ps.length := rfl
  rw [p1] at q
  refine ⟨.ref p :: ws.take ps.length, ws.drop ps.length, by simp, by simp; omega, lim_size (by rw [List.length_drop]; omega), fun t ht => ?_⟩
  have hFt : F1 t = none := free_F hF ht
  have sF : Same F1 (upd F1 t (.tup (ws.drop ps.length))) := fun a u z => by
    rw [upd_ne (ne_of_none z hFt)]
    exact z
  have npt : p ≠ t := ne_of_none hp ht
  refine ⟨upd F1 t (.tup (ws.drop ps.length)), p, dx, ws.take ps.length ++ [V.ref t], as.take ps.length ++ [.tup (as.drop ps.length)], by simp, by rw [upd_ne npt]; exact hp, by rw [upd_ne npt]; exact hFp, fun a u z => ?_, ?_, ?_⟩
  · by_cases y : a = t
    · subst y
      rw [upd_same] at z ⊢
      exact z
    · rw [upd_ne y] at z ⊢
      exact hF a u z
  · refine (RepL.mono sF _ (r.take ps.length)).append (RepL.one ?_)
    simp only [Rep]
    exact ⟨t, _, rfl, .inl (.inl upd_same), RepL.mono sF _ (r.drop ps.length)⟩
  · have back : ∀ {F' H' : Hp}, IP (upd F1 t (.tup (ws.drop ps.length))) (upd H t (.tup (ws.drop ps.length))) p F' H' → IP F1 H p F' H' := fun {F' H'} i => by
      refine ⟨sF.trans i.ex, i.exH, fun a o n h => ?_, i.pF, i.pH, fun a h => ?_⟩
      · have na := ne_of_none h ht
        obtain ⟨m1, m2⟩ := i.keep a o n (by rw [upd_ne na]; exact h)
        exact ⟨m1, by rw [m2, upd_ne na]⟩
      · have := i.live a h
        unfold upd at this
        split at this
        · cases this
        · exact this
    cases e : runI c (s0 :: ps ++ [pv]).length N.length fb (as.take ps.length ++ [.tup (as.drop ps.length)]) with
    | bad =>
      rw [e] at q
      exact q
    | ok ns ds =>
      rw [e] at q
      exact fun F' H' dx' us i => q F' H' dx' us (back i)
    | exc x =>
      rw [e] at q
      exact fun cc d F' H' i => q cc d F' H' (back i)
theorem InitY.mono {j : Nat} {c : Str} {fI : IFn} (h : InitY P w K mg base k f c fI) (l : k ≤ j) : InitY P w K mg base j f c fI := FnR.mono h l
end
/-! ### making an object -/
def makeOp (c : Str) (fI : IFn) : ON := fun rs st => match frzs rs st with
  | some (as, st1) => (match fI as with
    | .ok ns ds => .ok (.val (.obj c ns ds)) st1
    | .exc x => .exc x st1
    | .bad => .bad)
  | none => .bad
section
variable {K : PySem.W.Frag} {W : WX} {E : Ent} {Fb Hb F H : Hp} {stb st : DSt} {σ : L2.St} {Q : VK}
theorem p_make {c : Str} {fI : IFn} {rs : List R} {vs : List V} (s : SR K E F H st σ) (p : Stp Fb Hb stb σ F H st) (h : relA K E Hb F H st σ rs vs) (q : Cont K W (RR K) E Fb Hb stb σ (makeOp c fI rs st) Q) :
    ∀ x dx, H x = none → H dx = none → dx ≠ x → spI K c fI (.ref x :: vs) (upd (upd H dx (.own x)) x (.ins (He.ga K c) dx [])) (fun v H2 => v = .non ∧ Q (.ref x) H2) (fun c d H' => W c d σ H') := by
  intro x dx hx hdx hne
  unfold makeOp at q
  cases e : frzs rs st with
  | none =>
    rw [e] at q
    exact q.elim
  | some z =>
    obtain ⟨as, st1⟩ := z
    rw [e] at q
    simp only at q
    obtain ⟨F1, s1, p1, r1, x1⟩ := frzs_ok s p h e
    have hF1 : F1 x = none := free_F s1.ex hx
    have up : ∀ a o, H a = some o → upd (upd H dx (.own x)) x (.ins (He.ga K c) dx []) a = some o := fun a o z => by
      rw [upd_ne (ne_of_none z hx), upd_ne (ne_of_none z hdx)]
      exact z
    refine ⟨F1, x, dx, vs, as, rfl, upd_same, hF1, fun a o z => up a o (s1.ex a o z), r1, ?_⟩
    have after : ∀ {F' H' : Hp}, IP F1 (upd (upd H dx (.own x)) x (.ins (He.ga K c) dx [])) x F' H' → SR K E F' H' st1 σ ∧ Stp Fb Hb stb σ F' H' st1 := fun {F' H'} i => by
      have cp : CP K F1 H [] [] F' H' [] := ⟨i.ex, i.exH, fun a o z _ => i.keep a o (ne_of_none z hx) (up a o z), fun j ys p' z => by simp at z, fun a z => by
        have := i.live a z
        unfold upd at this
        split at this
        · cases this
        · split at this
          · cases this
          · exact this⟩
      obtain ⟨s2, p2⟩ := s1.called cp fun a ⟨j, xs, z, _⟩ => by simp at z
      exact ⟨s2, p1.trans p2⟩
    cases ef : fI as with
    | bad =>
      rw [ef] at q
      exact q
    | exc y =>
      rw [ef] at q
      intro cc d F' H' i xr
      obtain ⟨s2, p2⟩ := after i
      exact q cc d F' H' s2 p2 xr
    | ok ns ds =>
      rw [ef] at q
      intro F' H' dx' us i hp' hl ru
      obtain ⟨s2, p2⟩ := after i
      have nOw : ¬ OwnAt st1 σ x := s1.notOwn hx
      have s3 := s2.freezeTmp hp' i.pF nOw (s1.fresh0 hx)
      have bx : Hb x = none := p1.live x hx
      have sF : Same F' (upd F' x (.ins (He.ga K c) dx' (ns.zip us))) := fun a u z => by
        rw [upd_ne (ne_of_none z i.pF)]
        exact z
      refine ⟨rfl, q (.ref x) _ H' s3 ⟨p2.ex.trans sF, fun a o z n => ?_, p2.own, p2.dfd, p2.live⟩ ?_⟩
      · obtain ⟨m1, m2⟩ := p2.keep a o z n
        exact ⟨m1, by rw [upd_ne (ne_of_none z bx)]; exact m2⟩
      · simp only [RR, Rep]
        exact ⟨x, dx', us, rfl, upd_same, hl, RepL.mono sF ds ru⟩
end
section
variable {X : Cx} {CX : CXT} {k : Nat} {f C : Addr} {sp : Sp} {x : Str} {e : Expr} {es : List Expr} {te tf : TE} {t : TA} {p pos sp_ : Pos}
theorem run_makeA {E : XK} {pins : List (Addr × Obj)} {σ : L2.St} {H : Hp} {s : Shared} {Q : VK} {us : List Value} {vs : List V} (M : Mk X.K C f) (F : FnR X.prog X.w X.K X.mg X.base CX k f sp) (hr : Room (k + 1) X.A) (hx : PassesAt CX X σ E) (I : Inv X pins σ H s) (r : Vals vs us)
    (h : ∀ x dx, H x = none → H dx = none → dx ≠ x → sp (V.ref x :: vs) (upd (upd H dx (.own x)) x (.ins C dx [])) (fun v H2 => v = .non ∧ Q (.ref x) H2) E) :
    wpAny (model X.prog X.w) X.A (call (.ref C) us) (EP X pins σ Q) X.xe s := by
  have hq := h (s.heap.objs.size + 1) s.heap.objs.size (I.hok.fresh (Nat.le_succ _)) (I.hok.fresh (Nat.le_refl _)) (Nat.ne_of_lt (Nat.lt_succ_self _))
  have I2 := Inv.made (C := C) I
  have r2 : Vals (V.ref (s.heap.objs.size + 1) :: vs) (Value.ref (s.heap.objs.size + 1) :: us) := .cons rfl r
  refine wpAny_call (make_map (f := f) I.kIn M.makes M.init (beq_iff_eq.mp M.fn) (codeAny_mono (F _ X.stack _ _ (Value.ref (s.heap.objs.size + 1) :: us) _ _ E (hr.make C us []) (I2.env0.make C us []) r2 hq) fun r s' hq' => ?_))
  cases r with
  | error e => exact hx pins _ _ e s' I2 hq'
  | ok fl =>
    cases fl with
    | ret u =>
      obtain ⟨v, H', I3, rv, ev, q3⟩ := I2.after hq'
      subst ev
      exact ⟨rv, ⟨V.ref (s.heap.objs.size + 1), H', I3, rfl, q3⟩⟩
    | next => exact False.elim hq'
    | brk => exact False.elim hq'
    | cont => exact False.elim hq'
def tMakeA (C : Addr) (sp : Sp) (E : L2.St → XK) (t : TA) : TE := fun σ H Q => t σ H fun vs H1 => ∀ x dx, H1 x = none → H1 dx = none → dx ≠ x →
  sp (V.ref x :: vs) (upd (upd H1 dx (.own x)) x (.ins C dx [])) (fun v H2 => v = .non ∧ Q (.ref x) H2) (E σ)
variable {E : L2.St → XK}
theorem pe_makeA (M : Mk X.K C f) (F : FnR X.prog X.w X.K X.mg X.base CX k f sp) (hr : Room (k + 1) X.A) (hg : Gl X x) (hm : X.mg x = some (.ref C)) (hx : ∀ σ, PassesAt CX X σ (E σ)) (ha : PA X (e :: es) t) (hdb : (x == ("__debug__" : Str)) = false := by decide)
    (he : starEach (e :: es) X.env = (false, eval e X.env) :: starEach es X.env := by rfl) (hpl : (backTo pos (starEach es X.env)).any (·.1) = false := by rfl) : PE X (.Call (.Name x p) (e :: es) [] pos) (tMakeA C sp E t) := by
  refine ⟨fun pins s σ H Q I h => ?_⟩
  refine wpAny_Call_Name_kw (ld_glob I hg hm ?_ hdb)
  refine PySem.W.callWith_K (h₀ := X.base) I.ok.mod.kin M.kp (thn (ha.run pos pins s σ H _ I h) fun us s1 ⟨vs, H1, I1, r, q⟩ => ⟨I1.kIn, ?_⟩) he hpl
  exact run_makeA M F hr (hx σ) I1 r q
theorem pe_makeA0 (M : Mk X.K C f) (F : FnR X.prog X.w X.K X.mg X.base CX k f sp) (hr : Room (k + 1) X.A) (hg : Gl X x) (hm : X.mg x = some (.ref C)) (hx : ∀ σ, PassesAt CX X σ (E σ)) (hdb : (x == ("__debug__" : Str)) = false := by decide) : PE X (.Call (.Name x p) [] [] pos) (tMakeA C sp E tNil) := by
  refine ⟨fun pins s σ H Q I h => ?_⟩
  refine wpAny_Call_Name_kw (ld_glob I hg hm ?_ hdb)
  exact PySem.W.callWith_K0 I.kIn M.kp (run_makeA (us := []) M F hr (hx σ) I .nil h)
/-- C( *e) -/
theorem pe_makeAS (M : Mk X.K C f) (F : FnR X.prog X.w X.K X.mg X.base CX k f sp) (hr : Room (k + 1) X.A) (hg : Gl X x) (hm : X.mg x = some (.ref C)) (hx : ∀ σ, PassesAt CX X σ (E σ)) (he : PE X e te) (hd : (x == ("__debug__" : Str)) = false := by decide)
    (hst : starEach [.Starred e sp_] X.env = [(true, eval e X.env)] := by rfl) :
    PE X (.Call (.Name x p) [.Starred e sp_] [] pos) (fun σ H Q => te σ H fun y H1 => ∃ a xs, y = V.ref a ∧ (SqT X.K H1 a xs ∨ SqL X.K H1 a xs) ∧ ∀ x dx, H1 x = none → H1 dx = none → dx ≠ x →
      sp (V.ref x :: xs) (upd (upd H1 dx (.own x)) x (.ins C dx [])) (fun v H2 => v = .non ∧ Q (.ref x) H2) (E σ)) := by
  refine ⟨fun pins s σ H Q I h => ?_⟩
  refine wpAny_Call_Name_kw (ld_glob I hg hm ?_ hd)
  refine PySem.W.callWith_S (h₀ := X.base) I.ok.mod.kin M.kp (thn (he.run pins s σ H _ I h) fun v s1 ⟨y, H1, I1, ry, a, xs, ey, hxs, q⟩ => ?_) hst
  subst ey
  obtain rfl : v = Value.ref a := ry
  exact StX.star_any I1 hxs fun us s2 I2 rv => ⟨I2.kIn, run_makeA M F hr (hx σ) I2 rv q⟩
end
end Dl

namespace Dl
open PySem L2 PySem.Spec PyProof.Rows
variable [ExI]
/-! ### C(..), C( *e), cls(..): data -/
/-- what an __init__ made of given data -/
def madeOf (c : Str) : IOut → DSt → Out R
  | .ok ns ds, st => .ok (.val (.obj c ns ds)) st
  | .exc x, st => .exc x st
  | .bad, _ => .bad
theorem makeOp_eq {c : Str} {fI : IFn} {rs : List R} {st : DSt} : makeOp c fI rs st = (match frzs rs st with | some (as, st1) => madeOf c (fI as) st1 | none => .bad) := by
  unfold makeOp
  cases frzs rs st with
  | none => rfl
  | some z =>
    obtain ⟨as, st1⟩ := z
    simp only
    cases fI as <;> rfl
def dMake (c : Str) (fI : IFn) (g : DA) : DX := bnd g (makeOp c fI)
/-- the items of a list or a tuple that is handed on -/
def itemsOf (r : R) (st : DSt) : Option (List D × DSt) := match look st r with
  | some (.lst xs) => some (xs, st)
  | some (.tup xs) => some (xs, st)
  | _ => none
def dMakeS (c : Str) (fI : IFn) (fe : DX) : DX := bnd fe fun r st => match itemsOf r st with
  | some (xs, st1) => madeOf c (fI xs) st1
  | none => .bad
section
variable {K : PySem.W.Frag} {W : WX} {E : Ent} {Fb Hb F H : Hp} {stb st : DSt} {σ : L2.St} {Q : VK}
theorem itemsOf_ok {r : R} {v : V} {xs : List D} {st1 : DSt} (s : SR K E F H st σ) (p : Stp Fb Hb stb σ F H st) (h : RR K E Hb F H st σ r v) (e : itemsOf r st = some (xs, st1)) :
    ∃ F1 a vs, SR K E F1 H st1 σ ∧ Stp Fb Hb stb σ F1 H st1 ∧ v = .ref a ∧ (SqT K H a vs ∨ SqL K H a vs) ∧ RepL K F1 xs vs := by
  unfold itemsOf at e
  cases e2 : look st r with
  | none =>
    rw [e2] at e
    cases e
  | some d =>
    rw [e2] at e
    cases d with
    | lst ys =>
      cases e
      obtain ⟨q, vs, rfl, k1, k2⟩ := look_list s h e2
      exact ⟨F, q, vs, s, p, rfl, .inr (SqL.of k1), k2⟩
    | tup ys =>
      cases e
      obtain ⟨q, vs, rfl, k1, k2⟩ := look_tup s h e2
      exact ⟨F, q, vs, s, p, rfl, .inl (sqT_mono s.ex k1), k2⟩
    | _ => cases e
theorem rel_vals : ∀ {ds : List D} {vs : List V}, RepL K F ds vs → relA K E Hb F H st σ (ds.map .val) vs
  | [], vs, r => by
    rw [repL_nil.mp r]
    exact ⟨.nil, trivial⟩
  | d :: ds, vs, r => by
    obtain ⟨v, ws, rfl, r1, r2⟩ := repL_cons.mp r
    obtain ⟨k1, k2⟩ := rel_vals r2
    exact ⟨.cons r1 k1, k2⟩
theorem frzs_vals : ∀ {ds : List D} {st : DSt}, frzs (ds.map .val) st = some (ds, st)
  | [], st => rfl
  | d :: ds, st => by
    simp only [List.map_cons, frzs, frz1, frzs_vals (ds := ds)]
theorem p_makeD {c : Str} {fI : IFn} {as : List D} {vs : List V} (s : SR K E F H st σ) (p : Stp Fb Hb stb σ F H st) (r : RepL K F as vs) (q : Cont K W (RR K) E Fb Hb stb σ (madeOf c (fI as) st) Q) :
    ∀ x dx, H x = none → H dx = none → dx ≠ x → spI K c fI (.ref x :: vs) (upd (upd H dx (.own x)) x (.ins (He.ga K c) dx [])) (fun v H2 => v = .non ∧ Q (.ref x) H2) (fun c d H' => W c d σ H') :=
  p_make s p (rel_vals r) (by rw [makeOp_eq, frzs_vals]; exact q)
theorem p_callD {f : FnD} {as : List D} {vs : List V} (s : SR K E F H st σ) (p : Stp Fb Hb stb σ F H st) (r : RepL K F as vs) (q : Cont K W (RR K) E Fb Hb stb σ (callY f (as.map .val) st) Q) : spR K f vs H Q (fun c d H' => W c d σ H') :=
  p_callY s p (rel_vals r) q
end
section
variable {X : Cx} {W : WX} {k : Nat} {f : Addr} {x c : Str} {e : Expr} {es : List Expr} {fe : DX} {g : DA} {fI : IFn} {p pos sp_ : Pos}
theorem de_make (M : Mk X.K (He.ga X.K c) f) (F : InitY X.prog X.w X.K X.mg X.base k f c fI) (hr : Room (k + 1) X.A) (tk : Takes X W) (hg : Gl X c) (hm : X.mg c = some (.ref (He.ga X.K c))) (ha : DAs X W (e :: es) g) (hdb : (c == ("__debug__" : Str)) = false := by decide)
    (he : starEach (e :: es) X.env = (false, eval e X.env) :: starEach es X.env := by rfl) (hpl : (backTo pos (starEach es X.env)).any (·.1) = false := by rfl) : DE X W (.Call (.Name c p) (e :: es) [] pos) (dMake c fI g) := by
  refine ⟨pe_imp (pe_makeA (E := fun σ c d H => W c d σ H) M F hr hg hm (fun σ => passAt tk σ) ha.pa hdb he hpl) fun σ H Q ⟨E, F, st, s, q⟩ => ?_⟩
  exact Rd.first s q fun vs F1 H1 st1 rs s1 p1 h1 q1 => p_make s1 p1 h1 q1
theorem de_make0 (M : Mk X.K (He.ga X.K c) f) (F : InitY X.prog X.w X.K X.mg X.base k f c fI) (hr : Room (k + 1) X.A) (tk : Takes X W) (hg : Gl X c) (hm : X.mg c = some (.ref (He.ga X.K c))) (hdb : (c == ("__debug__" : Str)) = false := by decide) : DE X W (.Call (.Name c p) [] [] pos) (dMake c fI dNil) := by
  refine ⟨pe_imp (pe_makeA0 (E := fun σ c d H => W c d σ H) M F hr hg hm (fun σ => passAt tk σ) hdb) fun σ H Q ⟨E, F, st, s, q⟩ => ?_⟩
  exact p_make s (Stp.refl _ _ _ _) ⟨.nil, trivial⟩ q
theorem de_makeS (M : Mk X.K (He.ga X.K c) f) (F : InitY X.prog X.w X.K X.mg X.base k f c fI) (hr : Room (k + 1) X.A) (tk : Takes X W) (hg : Gl X c) (hm : X.mg c = some (.ref (He.ga X.K c))) (ha : DE X W e fe) (hdb : (c == ("__debug__" : Str)) = false := by decide)
    (hst : starEach [.Starred e sp_] X.env = [(true, eval e X.env)] := by rfl) : DE X W (.Call (.Name c p) [.Starred e sp_] [] pos) (dMakeS c fI fe) := by
  refine ⟨pe_imp (pe_makeAS (E := fun σ c d H => W c d σ H) M F hr hg hm (fun σ => passAt tk σ) ha.pe hdb hst) fun σ H Q ⟨E, F, st, s, q⟩ => ?_⟩
  refine Rd.first s q fun v F1 H1 st1 r s1 p1 h1 q1 => ?_
  cases e2 : itemsOf r st1 with
  | none =>
    rw [e2] at q1
    exact q1.elim
  | some z =>
    obtain ⟨xs, st2⟩ := z
    rw [e2] at q1
    obtain ⟨F2, a, vs, s2, p2, rfl, k1, k2⟩ := itemsOf_ok s1 p1 h1 e2
    exact ⟨a, vs, rfl, k1, p_makeD s2 p2 k2 q1⟩
end
/-! ### cls(..): the class is a local's value -/
section
variable {X : Cx} {CX : CXT} {k i : Nat} {f C : Addr} {sp : Sp} {x : Str} {e : Expr} {es : List Expr} {te tf : TE} {t : TA} {p pos sp_ : Pos} {E : L2.St → XK}
theorem pe_makeL (M : Mk X.K C f) (F : FnR X.prog X.w X.K X.mg X.base CX k f sp) (hr : Room (k + 1) X.A) (hf : PE X (.Name x p) (tVar i)) (hx : ∀ σ, PassesAt CX X σ (E σ)) (ha : PA X (e :: es) t)
    (ht : eval (.Call (.Name x p) (e :: es) [] pos) X.env = (do callWith pos (← eval (.Name x p) X.env) [] (backTo pos (starEach (e :: es) X.env)) (backToKw pos (keywordEach [] X.env))) := by rfl)
    (he : starEach (e :: es) X.env = (false, eval e X.env) :: starEach es X.env := by rfl) (hpl : (backTo pos (starEach es X.env)).any (·.1) = false := by rfl) : PE X (.Call (.Name x p) (e :: es) [] pos) (fun σ H Q => σ[i]? = some (some (.ref C)) ∧ tMakeA C sp E t σ H Q) := by
  refine ⟨fun pins s σ H Q I h => ?_⟩
  refine Call_ (thn (hf.run pins s σ H (fun v H1 => v = .ref C ∧ tMakeA C sp E t σ H1 Q) I ⟨_, h.1, rfl, h.2⟩) fun u s1 ⟨y, H1, I1, ry, ey, q⟩ => ?_) ht
  subst ey
  obtain rfl : u = Value.ref C := ry
  refine PySem.W.callWith_K (h₀ := X.base) I1.ok.mod.kin M.kp (thn (ha.run pos pins s1 σ H1 _ I1 q) fun us s2 ⟨vs, H2, I2, r, q2⟩ => ⟨I2.kIn, ?_⟩) he hpl
  exact run_makeA M F hr (hx σ) I2 r q2
theorem pe_makeL0 (M : Mk X.K C f) (F : FnR X.prog X.w X.K X.mg X.base CX k f sp) (hr : Room (k + 1) X.A) (hf : PE X (.Name x p) (tVar i)) (hx : ∀ σ, PassesAt CX X σ (E σ))
    (ht : eval (.Call (.Name x p) [] [] pos) X.env = (do callWith pos (← eval (.Name x p) X.env) [] (backTo pos (starEach [] X.env)) (backToKw pos (keywordEach [] X.env))) := by rfl) : PE X (.Call (.Name x p) [] [] pos) (fun σ H Q => σ[i]? = some (some (.ref C)) ∧ tMakeA C sp E tNil σ H Q) := by
  refine ⟨fun pins s σ H Q I h => ?_⟩
  refine Call_ (thn (hf.run pins s σ H (fun v H1 => v = .ref C ∧ tMakeA C sp E tNil σ H1 Q) I ⟨_, h.1, rfl, h.2⟩) fun u s1 ⟨y, H1, I1, ry, ey, q⟩ => ?_) ht
  subst ey
  obtain rfl : u = Value.ref C := ry
  exact PySem.W.callWith_K0 I1.kIn M.kp (run_makeA (us := []) M F hr (hx σ) I1 .nil q)
theorem pe_makeLS (M : Mk X.K C f) (F : FnR X.prog X.w X.K X.mg X.base CX k f sp) (hr : Room (k + 1) X.A) (hf : PE X (.Name x p) (tVar i)) (hx : ∀ σ, PassesAt CX X σ (E σ)) (he : PE X e te)
    (ht : eval (.Call (.Name x p) [.Starred e sp_] [] pos) X.env = (do callWith pos (← eval (.Name x p) X.env) [] (backTo pos (starEach [.Starred e sp_] X.env)) (backToKw pos (keywordEach [] X.env))) := by rfl)
    (hst : starEach [.Starred e sp_] X.env = [(true, eval e X.env)] := by rfl) : PE X (.Call (.Name x p) [.Starred e sp_] [] pos) (fun σ H Q => σ[i]? = some (some (.ref C)) ∧ te σ H fun y H1 => ∃ a xs, y = V.ref a ∧ (SqT X.K H1 a xs ∨ SqL X.K H1 a xs) ∧ ∀ x dx, H1 x = none → H1 dx = none → dx ≠ x →
      sp (V.ref x :: xs) (upd (upd H1 dx (.own x)) x (.ins C dx [])) (fun v H2 => v = .non ∧ Q (.ref x) H2) (E σ)) := by
  refine ⟨fun pins s σ H Q I h => ?_⟩
  refine Call_ (thn (hf.run pins s σ H (fun v H1 => v = .ref C ∧ te σ H1 _) I ⟨_, h.1, rfl, h.2⟩) fun u s1 ⟨y, H1, I1, ry, ey, q⟩ => ?_) ht
  subst ey
  obtain rfl : u = Value.ref C := ry
  refine PySem.W.callWith_S (h₀ := X.base) I1.ok.mod.kin M.kp (thn (he.run pins s1 σ H1 _ I1 q) fun v s2 ⟨y, H2, I2, ry, a, xs, ey, hxs, q2⟩ => ?_) hst
  subst ey
  obtain rfl : v = Value.ref a := ry
  exact StX.star_any I2 hxs fun us s3 I3 rv => ⟨I3.kIn, run_makeA M F hr (hx σ) I3 rv q2⟩
end
/-- the slot holds the class -/
def isGl (i : Nat) (c : Str) (st : DSt) : Bool := match st[i]? with
  | some (some (.val (.gl x))) => decide (x = c)
  | _ => false
theorem isGl_ok {K : PySem.W.Frag} {E : Ent} {F H : Hp} {st : DSt} {σ : L2.St} {i : Nat} {c : Str} (s : SR K E F H st σ) (h : isGl i c st = true) : σ[i]? = some (some (.ref (He.ga K c))) := by
  unfold isGl at h
  split at h
  · rename_i x e
    obtain ⟨v, k1, k2⟩ := s.val i _ e
    simp only [Rep] at k2
    rw [k1, k2, of_decide_eq_true h]
  · cases h
def dIfGl (i : Nat) (c : Str) (f : DX) : DX := fun st => if isGl i c st then f st else .bad
section
variable {X : Cx} {W : WX} {k i : Nat} {f : Addr} {x c : Str} {e : Expr} {es : List Expr} {fe : DX} {g : DA} {fI : IFn} {p pos sp_ : Pos}
theorem de_makeL (hf : PE X (.Name x p) (tVar i)) (M : Mk X.K (He.ga X.K c) f) (F : InitY X.prog X.w X.K X.mg X.base k f c fI) (hr : Room (k + 1) X.A) (tk : Takes X W) (ha : DAs X W (e :: es) g)
    (ht : eval (.Call (.Name x p) (e :: es) [] pos) X.env = (do callWith pos (← eval (.Name x p) X.env) [] (backTo pos (starEach (e :: es) X.env)) (backToKw pos (keywordEach [] X.env))) := by rfl)
    (he : starEach (e :: es) X.env = (false, eval e X.env) :: starEach es X.env := by rfl) (hpl : (backTo pos (starEach es X.env)).any (·.1) = false := by rfl) : DE X W (.Call (.Name x p) (e :: es) [] pos) (dIfGl i c (dMake c fI g)) := by
  refine ⟨pe_imp (pe_makeL (E := fun σ c d H => W c d σ H) M F hr hf (fun σ => passAt tk σ) ha.pa ht he hpl) fun σ H Q ⟨E, F, st, s, q⟩ => ?_⟩
  unfold dIfGl at q
  by_cases hz : isGl i c st = true
  · rw [if_pos hz] at q
    exact ⟨isGl_ok s hz, Rd.first s q fun vs F1 H1 st1 rs s1 p1 h1 q1 => p_make s1 p1 h1 q1⟩
  · rw [if_neg hz] at q
    exact q.elim
theorem de_makeL0 (hf : PE X (.Name x p) (tVar i)) (M : Mk X.K (He.ga X.K c) f) (F : InitY X.prog X.w X.K X.mg X.base k f c fI) (hr : Room (k + 1) X.A) (tk : Takes X W)
    (ht : eval (.Call (.Name x p) [] [] pos) X.env = (do callWith pos (← eval (.Name x p) X.env) [] (backTo pos (starEach [] X.env)) (backToKw pos (keywordEach [] X.env))) := by rfl) : DE X W (.Call (.Name x p) [] [] pos) (dIfGl i c (dMake c fI dNil)) := by
  refine ⟨pe_imp (pe_makeL0 (E := fun σ c d H => W c d σ H) M F hr hf (fun σ => passAt tk σ) ht) fun σ H Q ⟨E, F, st, s, q⟩ => ?_⟩
  unfold dIfGl at q
  by_cases hz : isGl i c st = true
  · rw [if_pos hz] at q
    exact ⟨isGl_ok s hz, p_make s (Stp.refl _ _ _ _) ⟨.nil, trivial⟩ q⟩
  · rw [if_neg hz] at q
    exact q.elim
theorem de_makeLS (hf : PE X (.Name x p) (tVar i)) (M : Mk X.K (He.ga X.K c) f) (F : InitY X.prog X.w X.K X.mg X.base k f c fI) (hr : Room (k + 1) X.A) (tk : Takes X W) (ha : DE X W e fe)
    (ht : eval (.Call (.Name x p) [.Starred e sp_] [] pos) X.env = (do callWith pos (← eval (.Name x p) X.env) [] (backTo pos (starEach [.Starred e sp_] X.env)) (backToKw pos (keywordEach [] X.env))) := by rfl)
    (hst : starEach [.Starred e sp_] X.env = [(true, eval e X.env)] := by rfl) : DE X W (.Call (.Name x p) [.Starred e sp_] [] pos) (dIfGl i c (dMakeS c fI fe)) := by
  refine ⟨pe_imp (pe_makeLS (E := fun σ c d H => W c d σ H) M F hr hf (fun σ => passAt tk σ) ha.pe ht hst) fun σ H Q ⟨E, F, st, s, q⟩ => ?_⟩
  unfold dIfGl at q
  by_cases hz : isGl i c st = true
  case neg =>
    rw [if_neg hz] at q
    exact q.elim
  rw [if_pos hz] at q
  refine ⟨isGl_ok s hz, Rd.first s q fun v F1 H1 st1 r s1 p1 h1 q1 => ?_⟩
  cases e2 : itemsOf r st1 with
  | none =>
    rw [e2] at q1
    exact q1.elim
  | some z =>
    obtain ⟨xs, st2⟩ := z
    rw [e2] at q1
    obtain ⟨F2, a, vs, s2, p2, rfl, k1, k2⟩ := itemsOf_ok s1 p1 h1 e2
    exact ⟨a, vs, rfl, k1, p_makeD s2 p2 k2 q1⟩
end
end Dl

namespace Dl
open PySem L2 PySem.Spec PyProof.Rows
variable [ExI]
/-! ### the head: facts of the kit's kinds, facts of our own, defs at any address -/
abbrev Ex := PySem.W.Frag → Bool
def obsE (n : Nat) (fa : List He.Fa) (fn : List He5.DefA) (ex : List Ex) (g : Addr → Option Obj) : He.AlD × Bool := (He5.obsA fa fn (He.frG g (He5.asA g n)), ex.all fun e => e (He.frG g (He5.asA g n)))
def hookE (n : Nat) (fa : List He.Fa) (fn : List He5.DefA) (ex : List Ex) : PySem.W.Hook where
  α := He.AlD × Bool
  obs := fun s => obsE n fa fn ex s.heap.get?
  val := fun _ => (He5.valA fn, true)
  says := fun _ h => ∃ K : PySem.W.Frag, K.In h ∧ He5.SaysA fa fn K ∧ (ex.all fun e => e K) = true
  of := fun _ _ e => ⟨_, He.frG_in, congrArg (fun z : He.AlD × Bool => z.1) e, congrArg (fun z : He.AlD × Bool => z.2) e⟩
  keeps := fun _ _ _ ⟨K, hK, c⟩ k => ⟨K, PySem.W.Frag.In.keeps hK k, c⟩
theorem obsE_eq {n : Nat} {fa : List He.Fa} {fn : List He5.DefA} {ex : List Ex} {g : Addr → Option Obj} {s : Shared} (h : ∀ a, g a = s.heap.get? a) : obsE n fa fn ex g = (hookE n fa fn ex).obs s := by
  rw [show g = s.heap.get? from funext h]
  rfl
structure FxE (fa : List He.Fa) (fn : List He5.DefA) (ex : List Ex) (K : PySem.W.Frag) (mg : Str → Option Value) : Prop where
  says : He5.SaysA fa fn K
  exs : (ex.all fun e => e K) = true
  ns : ∃ h : Heap, K.In h ∧ h.Ns mainGlobals mg
section
variable {fa : List He.Fa} {fn : List He5.DefA} {ex : List Ex} {K : PySem.W.Frag} {mg : Str → Option Value}
theorem FxE.g (T : FxE fa fn ex K mg) (i : Nat) {x : Str} (h : fa[i]? = some (.glo x) := by rfl) : mg x = some (.ref (He.ga K x)) := by
  obtain ⟨h', X, G⟩ := T.ns
  exact He.glo_ok X G (T.says.fact i h)
theorem FxE.f (T : FxE fa fn ex K mg) (i : Nat) {x : Str} (h : fa[i]? = some (.free x) := by rfl) : mg x = none := by
  obtain ⟨h', X, G⟩ := T.ns
  exact He.free_ok X G (T.says.fact i h)
theorem FxE.i (T : FxE fa fn ex K mg) (i : Nat) {x : Str} {n : Int} (h : fa[i]? = some (.int x n) := by rfl) : ∃ t, mg x = some (.int n t) := by
  obtain ⟨h', X, G⟩ := T.ns
  exact He.int_ok X G (T.says.fact i h)
theorem FxE.s (T : FxE fa fn ex K mg) (i : Nat) {x z : Str} (h : fa[i]? = some (.str x z) := by rfl) : ∃ t, mg x = some (.str z t) := by
  obtain ⟨h', X, G⟩ := T.ns
  exact He.str_ok X G (T.says.fact i h)
theorem FxE.cls (T : FxE fa fn ex K mg) (i : Nat) {x : Str} (h : fa[i]? = some (.cls x) := by rfl) : Cls K (He.ga K x) := He.cls_ok (T.says.fact i h)
theorem FxE.no (T : FxE fa fn ex K mg) (i : Nat) {x f : Str} (h : fa[i]? = some (.noat x f) := by rfl) : NoAttr K (He.ga K x) f := He.eqO_ok (T.says.fact i h)
theorem FxE.meth (T : FxE fa fn ex K mg) (i : Nat) {x m : Str} (h : fa[i]? = some (.meth x m) := by rfl) : Meth K (He.ga K x) m (He.ma K (He.ga K x) m) := He.meth_ok (T.says.fact i h)
theorem FxE.mkr (T : FxE fa fn ex K mg) (i : Nat) {x : Str} (h : fa[i]? = some (.mkr x) := by rfl) : Mk K (He.ga K x) (He.ma K (He.ga K x) "__init__") := He.mkr_ok (T.says.fact i h)
theorem FxE.x (T : FxE fa fn ex K mg) (i : Nat) {e : Ex} (h : ex[i]? = some e := by rfl) : e K = true := List.all_eq_true.mp T.exs e (List.mem_of_getElem? h)
end
/-! ### facts of our own -/
def cmB (c m : Str) : Ex := fun K => He5.wrapB K (He.ga K c) "classmethod" "classmethod.__get__" m && (PySem.W.fnIn K (He5.wf K (He.ga K c) "classmethod" m) && (PySem.W.readsIn K (He.ga K c) (.type "type") && He.eqO (PySem.W.specialIn K (.ref (He.ga K c)) "__getattribute__") (some (some (.builtin "type.__getattribute__")))))
theorem cmB_ok {c m : Str} {K : PySem.W.Frag} (h : cmB c m K = true) : ClX.CRead K (He.ga K c) (.type "type") ∧ ClX.CMet K (He.ga K c) (.type "type") m (He.ma K (He.ga K c) m) (He5.wf K (He.ga K c) "classmethod" m) := by
  obtain ⟨h1, h⟩ := He.ba h
  obtain ⟨h2, h⟩ := He.ba h
  obtain ⟨h3, h4⟩ := He.ba h
  exact ⟨⟨h3, He.eqO_ok h4⟩, He5.cmet_of h1 h2⟩
def prG (K : PySem.W.Frag) (C : Addr) (m : Str) : Addr := He5.wf K C "property" m
def prB (c m : Str) : Ex := fun K => He.eqO (PySem.W.findIn K (.ref (He.ga K c)) m) (some (some (.ref (He.ma K (He.ga K c) m)))) && (He.eqO (PySem.W.specialIn K (.ref (He.ma K (He.ga K c) m)) "__get__") (some (some (.builtin "property.__get__"))) && (decide (PySem.W.takesIn K (.ref (He.ma K (He.ga K c) m)) = some true) && (match PySem.W.recIn K (He.ma K (He.ga K c) m) "property" with
  | some (.ref _ :: _) => true
  | _ => false)))
theorem prB_ok {c m : Str} {K : PySem.W.Frag} (h : prB c m K = true) : PropOf K (He.ga K c) m (He.ma K (He.ga K c) m) (prG K (He.ga K c) m) := by
  obtain ⟨h1, h⟩ := He.ba h
  obtain ⟨h2, h⟩ := He.ba h
  obtain ⟨h3, h4⟩ := He.ba h
  refine ⟨He.eqO_ok h1, He.eqO_ok h2, of_decide_eq_true h3, ?_⟩
  unfold prG He5.wf
  split at h4
  · rename_i f r e
    exact ⟨r, by rw [e]⟩
  · cases h4
/-! ### C.m(..), m a classmethod -/
section
variable {X : Cx} {W : WX} {CX : CXT} {k : Nat} {C p g : Addr} {mc : Value} {sp : Sp} {E : L2.St → XK} {o e : Expr} {es : List Expr} {f m : Str} {pos apos : Pos} {ta : TE} {t : TA} {pl : Sem Bool}
theorem pe_cmethA (he : PE X o ta) (r : ClX.CRead X.K C mc) (c : ClX.CMet X.K C mc m p g) (F : FnR X.prog X.w X.K X.mg X.base CX k g sp) (hr : Room k X.A) (hx : ∀ σ, PassesAt CX X σ (E σ)) (ha : PA X (e :: es) t)
    (hst : starEach (e :: es) X.env = (false, eval e X.env) :: starEach es X.env := by rfl) (hpl : (backTo pos (starEach es X.env)).any (·.1) = false := by rfl)
    (ht : eval (.Call (.Attribute o m apos) (e :: es) [] pos) X.env = (do
      let ov ← eval o X.env
      standAt apos.atName
      let (f, first) ← holding [ov] (getMethod ov m pl)
      callWith pos f first (backTo pos (starEach (e :: es) X.env)) (backToKw pos (keywordEach [] X.env))) := by rfl) :
    PE X (.Call (.Attribute o m apos) (e :: es) [] pos) (fun σ H Q => ta σ H fun x H1 => x = .ref C ∧ t σ H1 fun vs H2 => sp (.ref C :: vs) H2 Q (E σ)) := by
  refine ⟨fun pins s σ H Q I h => ?_⟩
  refine PySem.W.methodCall_KW (pl := pl) (thn (he.run pins s σ H _ I h) fun u s1 ⟨x, H1, I1, rx, ex, q⟩ => ?_) ht
  subst ex
  obtain rfl : u = Value.ref C := rx
  refine ClX.getmethcm_ok I1 r c fun s2 I2 => ?_
  refine ClX.callwith_cm I2 (ClX.base_none I1 (Nat.le_refl _)) c.fi (thn (ha.run pos _ s2 σ H1 _ I2 q) fun us s3 ⟨vs, H2, I3, rv, q2⟩ => ⟨⟨ClX.pin_at I3, I3.kIn⟩, ?_⟩) hst hpl
  exact thn (wpAny_call (PySem.W.method_call (ClX.pin_at I3) (run_fnRA (us := .ref C :: us) (vs := .ref C :: vs) F hr (hx σ) I3 (.cons rfl rv) q2))) fun _ _ y => ClX.unpinE y
/-- the class, then the arguments -/
def dCMeth (c : Str) (f : FnD) (fo : DX) (g : DA) : DX := bnd fo fun r st => match r with
  | .val (.gl x) => if x = c then bnd g (fun rs => callY f (r :: rs)) st else .bad
  | _ => .bad
theorem de_gl {c : Str} {pos : Pos} (hg : Gl X c) (hm : X.mg c = some (.ref (He.ga X.K c))) (hd : (c == ("__debug__" : Str)) = false := by decide) : DE X W (.Name c pos) (dC (.gl c)) := de_const (v := .ref (He.ga X.K c)) (pe_glob hg hm rfl hd) fun F => by simp only [Rep]
theorem de_cmeth {c : Str} {f : FnD} {fo : DX} {g' : DA} (he : DE X W o fo) (hc : cmB c m X.K = true) (G : FnY X.prog X.w X.K X.mg X.base k (He5.wf X.K (He.ga X.K c) "classmethod" m) f) (hr : Room k X.A) (tk : Takes X W) (ha : DAs X W (e :: es) g')
    (hst : starEach (e :: es) X.env = (false, eval e X.env) :: starEach es X.env := by rfl) (hpl : (backTo pos (starEach es X.env)).any (·.1) = false := by rfl)
    (ht : eval (.Call (.Attribute o m apos) (e :: es) [] pos) X.env = (do
      let ov ← eval o X.env
      standAt apos.atName
      let (f, first) ← holding [ov] (getMethod ov m pl)
      callWith pos f first (backTo pos (starEach (e :: es) X.env)) (backToKw pos (keywordEach [] X.env))) := by rfl) : DE X W (.Call (.Attribute o m apos) (e :: es) [] pos) (dCMeth c f fo g') := by
  obtain ⟨h1, h2⟩ := cmB_ok hc
  refine ⟨pe_imp (pe_cmethA (E := fun σ c d H => W c d σ H) he.pe h1 h2 G hr (fun σ => passAt tk σ) ha.pa hst hpl ht) fun σ H Q ⟨E, F, st, s, q⟩ => ?_⟩
  refine Rd.first s q fun v F1 H1 st1 r s1 p1 k1 q1 => ?_
  split at q1
  · rename_i x
    by_cases z : x = c
    · rw [if_pos z] at q1
      have ev : v = .ref (He.ga X.K x) := by simpa only [RR, Rep] using k1
      subst z
      refine ⟨ev, Rd.next s1 p1 q1 fun ws F2 H2 st2 rs s2 p2 p k2 q2 => ?_⟩
      rw [← ev]
      exact p_callY s2 p ⟨Paired.cons (k1.step p2) (paired_base p1.live k2.1), tsep_cons k1 k2⟩ q2
    · rw [if_neg z] at q1
      exact q1.elim
  · exact q1.elim
end
/-! ### o.p, p a property -/
def callP (f : FnD) : ON := fun rs st => match callY f rs st with
  | .ok r st1 => .ok r st1
  | _ => .bad
def dProp (c : Str) (f : FnD) (fo : DX) : DX := bnd fo fun r st => match objOf c r st with
  | some _ => callP f [r] st
  | none => .bad
theorem pass_no {X : Cx} {E : XK} (h : ∀ c d H, ¬ E c d H) : Passes (L2.CX X.prog X.w) X E := fun _ _ _ _ _ _ _ ⟨_, _, H', cls, d, _, _, _, _, _, _, _, z⟩ => (h cls d H' z).elim
section
variable {X : Cx} {W : WX} {k : Nat} {o : Expr} {m c : Str} {pos : Pos} {fo : DX} {f : FnD} {ps : List Str}
theorem de_prop (he : DE X W o fo) (hc : Cls X.K (He.ga X.K c)) (hp : prB c m X.K = true) (G : FnX X.prog X.w X.K X.mg X.base k (prG X.K (He.ga X.K c) m) ps [] f) (hr : Room (k + 1) X.A) (hps : ps.length = 1 := by rfl) (hab : attributeBase o m X.env (eval o X.env) = eval o X.env := by rfl) : DE X W (.Attribute o m pos) (dProp c f fo) := by
  obtain ⟨fd, ds, dvs, h1, h2, h3, h4, h5⟩ := G
  have d0 : dvs = [] := by
    have := (h4 fun _ => none).length
    cases dvs with
    | nil => rfl
    | cons a b => simp at this
  subst d0
  refine ⟨pe_imp (pe_prop (E := fun _ _ _ => False) he.pe hc (prB_ok hp) h1 hr h2 h3 (pass_no fun _ _ _ z => z) hab) fun σ H Q ⟨E, F, st, s, q⟩ => ?_⟩
  refine Rd.first s q fun v F1 H1 st1 r s1 p1 k1 q1 => ?_
  cases e : objOf c r st1 with
  | none =>
    rw [e] at q1
    exact q1.elim
  | some z =>
    obtain ⟨ns, ds'⟩ := z
    rw [e] at q1
    simp only at q1
    obtain ⟨a, dx, vs, rfl, m2, m3⟩ := objOf_ok s1 k1 e
    refine ⟨a, dx, _, rfl, m2, ?_⟩
    unfold callP at q1
    have hz : spR X.K f [.ref a] H1 Q (fun _ _ _ => False) := by
      refine p_callY (W := fun _ _ _ _ => False) s1 p1 (rs := [r]) ⟨.cons k1 .nil, by cases r <;> simp [TSep]⟩ ?_
      cases e2 : callY f [r] st1 with
      | ok r' st2 =>
        rw [e2] at q1
        exact q1
      | exc x st2 =>
        rw [e2] at q1
        exact q1.elim
      | bad =>
        rw [e2] at q1
        exact q1
    obtain ⟨F2, args, g1, g2, g3, g4⟩ := hz
    exact ⟨F2, args, g1, by rw [hps]; rfl, g2, g3, g4⟩
end
end Dl

namespace Dl
open PySem L2 PySem.Spec PyProof.Rows
variable [ExI]
/-! ### operators of own classes (without exceptions) -/
abbrev NoE : XK := fun _ _ _ => False
section
variable {X : Cx} {pins : List (Addr × Obj)} {σ : L2.St} {H : Hp} {s : Shared}
theorem inst_at {a C dx : Addr} {fs : List (Str × V)} (I : Inv X pins σ H s) (e : H a = some (.ins C dx fs)) : ∃ ox od, PySem.W.InstAt s.heap a ox C od := by
  obtain ⟨mA, O, _⟩ := ins_get I.hok e
  obtain ⟨od, J, _⟩ := O.look
  exact ⟨_, _, J⟩
/-- a def that is called from within an operation; it lets nothing out -/
theorem run_in {A : Around} {k : Nat} {f : Addr} {sp : Sp} {Q : VK} {us : List Value} {vs : List V} {E' : Value → Shared → Prop} (F : FnR X.prog X.w X.K X.mg X.base (L2.CX X.prog X.w) k f sp) (hr : Room k A) (hA : Env0 X.prog X.w X.K X.mg X.base A X.stack s H) (I : Inv X pins σ H s) (r : Vals vs us) (h : sp vs H Q NoE) :
    wpAny (model X.prog X.w) A (call (.ref f) us) (EP X pins σ Q) E' s := by
  refine wpAny_call (codeAny_mono (F A X.stack s H us vs Q NoE hr hA r h) fun r s' hq => ?_)
  cases r with
  | error e =>
    obtain ⟨_, _, _, _, _, _, _, _, _, _, _, _, z⟩ := hq
    exact z.elim
  | ok fl =>
    cases fl with
    | ret u => exact I.after hq
    | next => exact False.elim hq
    | brk => exact False.elim hq
    | cont => exact False.elim hq
end
/-- callP meets a promise that lets nothing out -/
theorem p_callP {K : PySem.W.Frag} {W : WX} {E : Ent} {Fb Hb F H : Hp} {stb st : DSt} {σ : L2.St} {Q : VK} {f : FnD} {rs : List R} {vs : List V} {post : R → DSt → Out R} (s : SR K E F H st σ) (p : Stp Fb Hb stb σ F H st) (h : relA K E Hb F H st σ rs vs)
    {Q' : VK} (c : Cont K W (RR K) E Fb Hb stb σ (match callP f rs st with | .ok r st1 => post r st1 | _ => .bad) Q)
    (k : ∀ r v F' H' st1, SR K E F' H' st1 σ → Stp Fb Hb stb σ F' H' st1 → RR K E Hb F' H' st1 σ r v → Cont K W (RR K) E Fb Hb stb σ (post r st1) Q → Q' v H') : spR K f vs H Q' NoE := by
  refine p_callY (W := fun _ _ _ _ => False) s p h ?_
  unfold callP at c
  cases e : callY f rs st with
  | ok r st1 =>
    rw [e] at c
    exact fun v F' H' s' p' rr => k r v F' H' st1 s' p' rr c
  | exc x st1 =>
    rw [e] at c
    exact c.elim
  | bad =>
    rw [e] at c
    exact c
theorem objOf_tsep {c : Str} {r : R} {st : DSt} {z : List Str × List D} (h : objOf c r st = some z) (rs : List R) (v : V) (vs : List V) : TSep (r :: rs) (v :: vs) = TSep rs vs := by
  cases r with
  | val d => rfl
  | «at» i => rfl
  | tmp xs => cases h
section
variable {X : Cx} {W : WX} {k : Nat} {C g : Addr} {f : FnD} {c : Str}
/-- -o -/
def rNegO (C : Addr) (sp : Sp) : V → Hp → VK → Prop := fun x H Q => ∃ a dx fs, x = .ref a ∧ H a = some (.ins C dx fs) ∧ sp [.ref a] H Q NoE
theorem un_negO {sp : Sp} (m : Meth X.K C "__neg__" g) (F : FnR X.prog X.w X.K X.mg X.base (L2.CX X.prog X.w) k g sp) (hr : Room k X.A) : UnR X (unaryOp .USub) (rNegO C sp) := by
  intro pins s σ H x v Q I rx ⟨a, dx, fs, ex, ea, h⟩
  subst ex
  cases (show v = Value.ref a from rx)
  obtain ⟨ox, od, J⟩ := inst_at I ea
  obtain ⟨m', hF⟩ := I.fr
  exact PySem.W.ksp_neg hF I.ok.mod.kin J m.at_ m.fn (run_in (vs := [.ref a]) F hr I.env0 I (.cons rfl .nil) h)
def negO (c : Str) (f : FnD) : O1 := fun r st => match objOf c r st with
  | some _ => callP f [r] st
  | none => .bad
theorem p_negO {K : PySem.W.Frag} : P1 K W (rNegO (He.ga K c) (spR K f)) (negO c f) := by
  intro E Fb Hb stb F H st σ r1 v Q s p h q
  unfold negO at q
  cases e : objOf c r1 st with
  | none =>
    rw [e] at q
    exact q.elim
  | some z =>
    rw [e] at q
    obtain ⟨a, dx, vs, rfl, k2, k3⟩ := objOf_ok s h e
    refine ⟨a, dx, _, rfl, k2, p_callP (post := fun r st1 => .ok r st1) s p ⟨.cons h .nil, by rw [objOf_tsep e]; trivial⟩ (W := W) (Q := Q) ?_ fun r v F' H' st1 s' p' rr c => c v F' H' s' p' rr⟩
    simp only at q
    cases e2 : callP f [r1] st with
    | ok r st1 =>
      rw [e2] at q
      exact q
    | exc x st1 =>
      unfold callP at e2
      split at e2 <;> cases e2
    | bad =>
      rw [e2] at q
      exact q
theorem de_negO {a : Expr} {fa : DX} {pos : Pos} (m : Meth X.K (He.ga X.K c) "__neg__" g) (F : FnY X.prog X.w X.K X.mg X.base k g f) (hr : Room k X.A) (ha : DE X W a fa) : DE X W (.UnaryOp .USub a pos) (dOp1 (negO c f) fa) := de_un (un_negO m F hr) p_negO ha
/-- an operation on an object and another value that ends in a def of the class: the object's reading -/
def rOwn (C : Addr) (sp : Sp) (P : V → Hp → Prop) : R2 := fun x y H Q => ∃ a dx fs, x = .ref a ∧ H a = some (.ins C dx fs) ∧ P y H ∧ sp [.ref a, y] H Q NoE
theorem cmpBack_of {pins : List (Addr × Obj)} {σ : L2.St} {Q : VK} {u : Value} {s' : Shared} (h : EP X pins σ Q u s') : PySem.W.CmpBack (EP X pins σ Q) u s' := by
  unfold PySem.W.CmpBack
  split
  · obtain ⟨v, H', I', r, q⟩ := h
    cases v <;> simp [L2.RelV] at r
  · exact h
/-- a + b, two of one class -/
def SameC (C : Addr) : V → Hp → Prop := fun y H => ∃ b dy gs, y = .ref b ∧ H b = some (.ins C dy gs)
theorem op_binO {op : Operator} {sp : Sp} (hc : PySem.W.selfFirst X.K C = true) (hs : PySem.W.findIn X.K (.ref C) (PySem.dunder op.info.2) = some (some (.ref g))) (hf : PySem.W.isFn X.K (.ref g) = true) (F : FnR X.prog X.w X.K X.mg X.base (L2.CX X.prog X.w) k g sp) (hr : Room k X.A) : OpR X (binaryOp op) (rOwn C sp (SameC C)) := by
  intro pins s σ H x y v u Q I rx ry ⟨a, dx, fs, ex, ea, ⟨b, dy, gs, ey, eb⟩, h⟩
  subst ex ey
  cases (show v = Value.ref a from rx)
  cases (show u = Value.ref b from ry)
  obtain ⟨ox, od, J⟩ := inst_at I ea
  obtain ⟨oy, od', J'⟩ := inst_at I eb
  obtain ⟨m', hF⟩ := I.fr
  refine PySem.W.binop_K hF I.ok.mod.kin J J'.type hc hs hf (wpAny_mono (run_in (vs := [.ref a, .ref b]) F hr I.env0 I (.cons rfl (.cons rfl .nil)) h) (fun u s' z => cmpBack_of z) fun _ _ z => z)
/-- a == b, b of the class, a tuple or None -/
def nfB (c : Str) : Ex := fun K => PySem.W.notFirst K (He.ga K c) (.type "tuple") && PySem.W.notFirst K (He.ga K c) (.type "NoneType")
def EqSide (K : PySem.W.Frag) (C : Addr) : V → Hp → Prop := fun y H => SameC C y H ∨ y = .non ∨ ∃ b vs, y = .ref b ∧ SqT K H b vs
theorem op_eqO {sp : Sp} (hn : PySem.W.notFirst X.K C (.type "tuple") = true ∧ PySem.W.notFirst X.K C (.type "NoneType") = true) (m : Meth X.K C "__eq__" g) (F : FnR X.prog X.w X.K X.mg X.base (L2.CX X.prog X.w) k g sp) (hr : Room k X.A) : OpR X (compareOp .Eq) (rOwn C sp (EqSide X.K C)) := by
  intro pins s σ H x y v u Q I rx ry ⟨a, dx, fs, ex, ea, side, h⟩
  subst ex
  cases (show v = Value.ref a from rx)
  obtain ⟨ox, od, J⟩ := inst_at I ea
  obtain ⟨m', hF⟩ := I.fr
  have run : wpAny (model X.prog X.w) X.A (call (.ref g) [.ref a, u]) (PySem.W.CmpBack (EP X pins σ Q)) X.xe s := wpAny_mono (run_in (vs := [.ref a, y]) F hr I.env0 I (.cons rfl (.cons ry .nil)) h) (fun u s' z => cmpBack_of z) fun _ _ z => z
  show wpAny (model X.prog X.w) X.A (richCompare .Eq (.ref a) u) (EP X pins σ Q) X.xe s
  rcases side with ⟨b, dy, gs, ey, eb⟩ | ey | ⟨b, vs, ey, eb⟩
  · subst ey
    cases (show u = Value.ref b from ry)
    obtain ⟨oy, od', J'⟩ := inst_at I eb
    exact PySem.W.cmp_K (op := .Eq) (tb := .ref C) hr.units0 hF I.ok.mod.kin J J'.type (by simp [PySem.W.notFirst]) m.at_ m.fn run
  · subst ey
    cases (show u = Value.none from ry)
    exact PySem.W.cmp_K (op := .Eq) (tb := .type "NoneType") hr.units0 hF I.ok.mod.kin J (PySem.W.Looks.of_pure rfl) hn.2 m.at_ m.fn run
  · subst ey
    cases (show u = Value.ref b from ry)
    obtain ⟨its, rv, p, _⟩ := I.tuple eb
    obtain ⟨o, ho, hc', _⟩ := id p
    exact PySem.W.cmp_K (op := .Eq) (tb := .type "tuple") hr.units0 hF I.ok.mod.kin J (hc' ▸ (PySem.W.Looks.ld ho).andThen .now) hn.1 m.at_ m.fn run
/-- x in o -/
def rInO (C : Addr) (sp : Sp) : R2 := fun x y H Q => ∃ a dx fs, y = .ref a ∧ H a = some (.ins C dx fs) ∧ sp [.ref a, x] H (fun v H' => ∃ b, v = .bl b ∧ Q (.bl b) H') NoE
def rNotInO (C : Addr) (sp : Sp) : R2 := fun x y H Q => ∃ a dx fs, y = .ref a ∧ H a = some (.ins C dx fs) ∧ sp [.ref a, x] H (fun v H' => ∃ b, v = .bl b ∧ Q (.bl (!b)) H') NoE
theorem op_inO {sp : Sp} (m : Meth X.K C "__contains__" g) (F : FnR X.prog X.w X.K X.mg X.base (L2.CX X.prog X.w) k g sp) (hr : Room k X.A) : OpR X (compareOp .In) (rInO C sp) := by
  intro pins s σ H x y v u Q I rx ry ⟨a, dx, fs, ey, ea, h⟩
  subst ey
  cases (show u = Value.ref a from ry)
  obtain ⟨ox, od, J⟩ := inst_at I ea
  obtain ⟨m', hF⟩ := I.fr
  refine PySem.W.in_K hF I.ok.mod.kin J m.at_ m.fn (wpAny_mono (run_in (vs := [.ref a, x]) F hr I.env0 I (.cons rfl (.cons rx .nil)) h) (fun w s' z => ?_) fun _ _ z => z)
  obtain ⟨v', H', I', r', b, rfl, q⟩ := z
  cases (show w = Value.bool b from r')
  exact wpAny_pure ⟨.bl b, H', I', rfl, q⟩
theorem op_notInO {sp : Sp} (m : Meth X.K C "__contains__" g) (F : FnR X.prog X.w X.K X.mg X.base (L2.CX X.prog X.w) k g sp) (hr : Room k X.A) : OpR X (compareOp .NotIn) (rNotInO C sp) := by
  intro pins s σ H x y v u Q I rx ry ⟨a, dx, fs, ey, ea, h⟩
  subst ey
  cases (show u = Value.ref a from ry)
  obtain ⟨ox, od, J⟩ := inst_at I ea
  obtain ⟨m', hF⟩ := I.fr
  refine PySem.W.notIn_K hF I.ok.mod.kin J m.at_ m.fn (wpAny_mono (run_in (vs := [.ref a, x]) F hr I.env0 I (.cons rfl (.cons rx .nil)) h) (fun w s' z => ?_) fun _ _ z => z)
  obtain ⟨v', H', I', r', b, rfl, q⟩ := z
  cases (show w = Value.bool b from r')
  exact wpAny_pure ⟨.bl (!b), H', I', rfl, q⟩
/-- len(o) -/
def rLenO (C : Addr) (sp : Sp) : List V → Hp → VK → Prop := fun xs H Q => ∃ a dx fs, xs = [.ref a] ∧ H a = some (.ins C dx fs) ∧ sp [.ref a] H (fun v H' => ∃ n : Int, v = .int n ∧ 0 ≤ n ∧ n < 2 ^ 63 ∧ Q (.int n) H') NoE
theorem call_lenO {sp : Sp} (m : Meth X.K C "__len__" g) (F : FnR X.prog X.w X.K X.mg X.base (L2.CX X.prog X.w) k g sp) (hr : Room (k + 1) X.A) : CallR X (.builtin "len") (rLenO C sp) := by
  intro pins s σ H xs us Q I r ⟨a, dx, fs, ex, ea, h⟩
  subst ex
  obtain ⟨u, rfl, rx⟩ := vals1 r
  cases (show u = Value.ref a from rx)
  obtain ⟨ox, od, J⟩ := inst_at I ea
  obtain ⟨m', hF⟩ := I.fr
  refine PySem.W.len_K hF I.ok.mod.kin J m.at_ m.fn (wpAny_mono (run_in (vs := [.ref a]) F hr.in1 I.env0.in1 I (.cons rfl .nil) h) (fun w s' z => ?_) fun _ _ z => z)
  obtain ⟨v', H', I', r', n, rfl, n0, n1, q⟩ := z
  obtain ⟨t, rfl⟩ := (show ∃ t, w = Value.int n t from r')
  exact ⟨⟨n0, n1⟩, ⟨.int n, H', I'.tok _, ⟨_, rfl⟩, q⟩⟩
end
end Dl

namespace Dl
open PySem L2 PySem.Spec PyProof.Rows
variable [ExI]
/-! ### operators of own classes: data -/
section
variable {X : Cx} {W : WX} {k : Nat} {g : Addr} {f : FnD} {c : Str} {K : PySem.W.Frag}
theorem callP_ok {rs : List R} {st : DSt} : (∃ r st1, callP f rs st = .ok r st1) ∨ callP f rs st = .bad := by
  unfold callP
  split
  · exact .inl ⟨_, _, rfl⟩
  · exact .inr rfl
def binO (c : Str) (f : FnD) : O2 := fun r1 r2 st => match objOf c r1 st with
  | some _ => (match objOf c r2 st with
    | some _ => callP f [r1, r2] st
    | none => .bad)
  | none => .bad
/-- the other side of an == -/
def eqSide (c : Str) (r : R) (st : DSt) : Bool := match objOf c r st with
  | some _ => true
  | none => (match look st r with
    | some (.tup _) => true
    | some .non => true
    | _ => false)
def eqO (c : Str) (f : FnD) : O2 := fun r1 r2 st => match objOf c r1 st with
  | some _ => if eqSide c r2 st then callP f [r1, r2] st else .bad
  | none => .bad
def isBl (neg : Bool) : Out R → Out R
  | .ok (.val (.bl b)) st => .ok (.val (.bl (if neg then !b else b))) st
  | _ => .bad
def inO (neg : Bool) (c : Str) (f : FnD) : O2 := fun r1 r2 st => match objOf c r2 st with
  | some _ => isBl neg (callP f [r2, r1] st)
  | none => .bad
def isLen : Out R → Out R
  | .ok (.val (.int n)) st => if smallI n && decide (0 ≤ n) then .ok (.val (.int n)) st else .bad
  | _ => .bad
def lenO (c : Str) (f : FnD) : ON := fun rs st => match rs with
  | [r] => (match objOf c r st with
    | some _ => isLen (callP f [r] st)
    | none => .bad)
  | _ => .bad
theorem p_callP' {E : Ent} {Fb Hb F H : Hp} {stb st : DSt} {σ : L2.St} {Q : VK} {rs : List R} {vs : List V} {G : Out R → Out R} (hG : G .bad = .bad) (s : SR K E F H st σ) (p : Stp Fb Hb stb σ F H st) (h : relA K E Hb F H st σ rs vs)
    {Q' : VK} (c : Cont K W (RR K) E Fb Hb stb σ (G (callP f rs st)) Q) (k : ∀ r v F' H' st1, SR K E F' H' st1 σ → Stp Fb Hb stb σ F' H' st1 → RR K E Hb F' H' st1 σ r v → Cont K W (RR K) E Fb Hb stb σ (G (.ok r st1)) Q → Q' v H') : spR K f vs H Q' NoE := by
  refine p_callP (W := W) (Q := Q) (post := fun r st1 => G (.ok r st1)) s p h ?_ k
  rcases callP_ok (f := f) (rs := rs) (st := st) with ⟨r, st1, e⟩ | e
  · rw [e] at c ⊢
    exact c
  · rw [e, hG] at c
    exact c.elim
theorem p_binO : P2 K W (rOwn (He.ga K c) (spR K f) (SameC (He.ga K c))) (binO c f) := by
  intro E Fb Hb stb F H st σ r1 r2 v w Q s p h1 h2 q
  unfold binO at q
  cases e : objOf c r1 st with
  | none =>
    rw [e] at q
    exact q.elim
  | some z =>
    rw [e] at q
    simp only at q
    cases e2 : objOf c r2 st with
    | none =>
      rw [e2] at q
      exact q.elim
    | some z2 =>
      rw [e2] at q
      obtain ⟨a, dx, vs, rfl, k2, k3⟩ := objOf_ok s h1 e
      obtain ⟨b, dy, ws, rfl, m2, m3⟩ := objOf_ok s h2 e2
      exact ⟨a, dx, _, rfl, k2, ⟨b, dy, _, rfl, m2⟩, p_callP' (G := id) rfl s p ⟨.cons h1 (.cons h2 .nil), by rw [objOf_tsep e, objOf_tsep e2]; trivial⟩ q fun r v F' H' st1 s' p' rr c => c v F' H' s' p' rr⟩
theorem p_eqO : P2 K W (rOwn (He.ga K c) (spR K f) (EqSide K (He.ga K c))) (eqO c f) := by
  intro E Fb Hb stb F H st σ r1 r2 v w Q s p h1 h2 q
  unfold eqO at q
  cases e : objOf c r1 st with
  | none =>
    rw [e] at q
    exact q.elim
  | some z =>
    rw [e] at q
    simp only at q
    by_cases es : eqSide c r2 st = true
    case neg =>
      rw [if_neg es] at q
      exact q.elim
    rw [if_pos es] at q
    obtain ⟨a, dx, vs, rfl, k2, k3⟩ := objOf_ok s h1 e
    have ts : TSep [r2] [w] := by cases r2 <;> simp [TSep]
    refine ⟨a, dx, _, rfl, k2, ?_, p_callP' (G := id) rfl s p ⟨.cons h1 (.cons h2 .nil), by rw [objOf_tsep e]; exact ts⟩ q fun r v F' H' st1 s' p' rr c => c v F' H' s' p' rr⟩
    unfold eqSide at es
    cases e2 : objOf c r2 st with
    | some z2 =>
      obtain ⟨b, dy, ws, rfl, m2, m3⟩ := objOf_ok s h2 e2
      exact .inl ⟨b, dy, _, rfl, m2⟩
    | none =>
      rw [e2] at es
      simp only at es
      cases e3 : look st r2 with
      | none =>
        rw [e3] at es
        cases es
      | some d =>
        rw [e3] at es
        cases d with
        | tup xs =>
          obtain ⟨b, ws, rfl, m2, m3⟩ := look_tup s h2 e3
          exact .inr (.inr ⟨b, ws, rfl, sqT_mono s.ex m2⟩)
        | non => exact .inr (.inl (look_non s h2 e3))
        | _ => cases es
theorem p_inO : P2 K W (rInO (He.ga K c) (spR K f)) (inO false c f) := by
  intro E Fb Hb stb F H st σ r1 r2 v w Q s p h1 h2 q
  unfold inO at q
  cases e : objOf c r2 st with
  | none =>
    rw [e] at q
    exact q.elim
  | some z =>
    rw [e] at q
    obtain ⟨a, dx, vs, rfl, k2, k3⟩ := objOf_ok s h2 e
    have ts : TSep [r1] [v] := by cases r1 <;> simp [TSep]
    refine ⟨a, dx, _, rfl, k2, p_callP' (G := isBl false) rfl s p ⟨.cons h2 (.cons h1 .nil), by rw [objOf_tsep e]; exact ts⟩ q fun r v' F' H' st1 s' p' rr c => ?_⟩
    unfold isBl at c
    split at c
    · rename_i b st2 e2
      cases e2
      have ev : v' = .bl b := by simpa only [RR, Rep] using rr
      exact ⟨b, ev, c (.bl b) F' H' s' p' (by simp only [RR, Rep]; simp)⟩
    · exact c.elim
theorem p_notInO : P2 K W (rNotInO (He.ga K c) (spR K f)) (inO true c f) := by
  intro E Fb Hb stb F H st σ r1 r2 v w Q s p h1 h2 q
  unfold inO at q
  cases e : objOf c r2 st with
  | none =>
    rw [e] at q
    exact q.elim
  | some z =>
    rw [e] at q
    obtain ⟨a, dx, vs, rfl, k2, k3⟩ := objOf_ok s h2 e
    have ts : TSep [r1] [v] := by cases r1 <;> simp [TSep]
    refine ⟨a, dx, _, rfl, k2, p_callP' (G := isBl true) rfl s p ⟨.cons h2 (.cons h1 .nil), by rw [objOf_tsep e]; exact ts⟩ q fun r v' F' H' st1 s' p' rr c => ?_⟩
    unfold isBl at c
    split at c
    · rename_i b st2 e2
      cases e2
      have ev : v' = .bl b := by simpa only [RR, Rep] using rr
      exact ⟨b, ev, c (.bl (!b)) F' H' s' p' (by simp only [RR, Rep]; simp)⟩
    · exact c.elim
theorem pn_lenO : PN K W (rLenO (He.ga K c) (spR K f)) (lenO c f) := by
  intro E Fb Hb stb F H st σ rs vs Q s p h q
  unfold lenO at q
  split at q
  · rename_i r
    cases h.1 with
    | cons h1 t =>
      cases t
      cases e : objOf c r st with
      | none =>
        rw [e] at q
        exact q.elim
      | some z =>
        rw [e] at q
        obtain ⟨a, dx, ws, rfl, k2, k3⟩ := objOf_ok s h1 e
        refine ⟨a, dx, _, rfl, k2, p_callP' (G := isLen) rfl s p ⟨.cons h1 .nil, by rw [objOf_tsep e]; trivial⟩ q fun r' v' F' H' st1 s' p' rr c => ?_⟩
        unfold isLen at c
        split at c
        · rename_i n st2 e2
          cases e2
          by_cases hn : (smallI n && decide (0 ≤ n)) = true
          · rw [if_pos hn] at c
            obtain ⟨hn1, hn2⟩ := Bool.and_eq_true_iff.mp hn
            have ev : v' = .int n := by simpa only [RR, Rep] using rr
            obtain ⟨z1, z2⟩ := small_of hn1
            have n0 : 0 ≤ n := of_decide_eq_true hn2
            exact ⟨n, ev, n0, by omega, c (.int n) F' H' s' p' (by simp only [RR, Rep])⟩
          · rw [if_neg hn] at c
            exact c.elim
        · exact c.elim
  · exact q.elim
theorem de_addO {a b : Expr} {fa fb : DX} {pos : Pos} (hc : PySem.W.selfFirst X.K (He.ga X.K c) = true) (m : Meth X.K (He.ga X.K c) "__add__" g) (F : FnY X.prog X.w X.K X.mg X.base k g f) (hr : Room k X.A) (ha : DE X W a fa) (hb : DE X W b fb) : DE X W (.BinOp a .Add b pos) (dOp2 (binO c f) fa fb) :=
  de_op (op_binO hc m.at_ m.fn F hr) p_binO ha hb
theorem c_eqO (hn : nfB c X.K = true) (m : Meth X.K (He.ga X.K c) "__eq__" g) (F : FnY X.prog X.w X.K X.mg X.base k g f) (hr : Room k X.A) : CR2 X W .Eq (eqO c f) := ⟨_, op_eqO (He.ba hn) m F hr, p_eqO⟩
theorem c_inO (m : Meth X.K (He.ga X.K c) "__contains__" g) (F : FnY X.prog X.w X.K X.mg X.base k g f) (hr : Room k X.A) : CR2 X W .In (inO false c f) := ⟨_, op_inO m F hr, p_inO⟩
theorem c_notInO (m : Meth X.K (He.ga X.K c) "__contains__" g) (F : FnY X.prog X.w X.K X.mg X.base k g f) (hr : Room k X.A) : CR2 X W .NotIn (inO true c f) := ⟨_, op_notInO m F hr, p_notInO⟩
def dLenO (c : Str) (f : FnD) (ga : DA) : DX := dArgs (lenO c f) ga
theorem de_lenO {a : Expr} {ga : DA} {p pos : Pos} (m : Meth X.K (He.ga X.K c) "__len__" g) (F : FnY X.prog X.w X.K X.mg X.base k g f) (hr : Room (k + 1) X.A) (hg : Gl X "len") (hm : X.mg "len" = none) (ha : DAs X W [a] ga) (he : starEach [a] X.env = (false, eval a X.env) :: starEach [] X.env := by rfl) : DE X W (.Call (.Name "len" p) [a] [] pos) (dLenO c f ga) :=
  de_callB (call_lenO m F hr) pn_lenO hg hm boot_len ha (by decide) (by decide) he rfl
end
end Dl

namespace Dl
open PySem L2 PySem.Spec PyProof.Rows
variable [ExI]
/-! ### isinstance(x, C), C an own class -/
/-- what a class must say that isinstance may be asked of its objects -/
def insB (c : Str) : Ex := fun K => He.eqO (PySem.W.findIn K (.ref (He.ga K c)) "__class__") (some (some (.builtin "object.__class__"))) && (He.eqO (PySem.W.specialIn K (.builtin "object.__class__") "__get__") (some (some (.builtin "getset_descriptor.__get__"))) && (decide (PySem.W.takesIn K (.builtin "object.__class__") = some true) && decide (PySem.W.mroIn K (He.ga K c) (.type "object") = some true)))
theorem insB_ok {c : Str} {K : PySem.W.Frag} {H : Hp} {a dx : Addr} {fs : List (Str × V)} (h : insB c K = true) (cl : Cls K (He.ga K c)) (e : H a = some (.ins (He.ga K c) dx fs)) : TyOf K H (.ref a) (.ref (He.ga K c)) := by
  obtain ⟨h1, h⟩ := He.ba h
  obtain ⟨h2, h⟩ := He.ba h
  obtain ⟨h3, h4⟩ := He.ba h
  exact .ins e cl (He.eqO_ok h1) (He.eqO_ok h2) (of_decide_eq_true h3) (of_decide_eq_true h4)
/-- data that is no object is no instance of C -/
def tysB (c : Str) : Ex := fun K => ["NoneType", "bool", "int", "str", "tuple", "list"].all fun T => decide (PySem.W.kitOne K (.type T) (.ref (He.ga K c)) = some false)
theorem tysB_ok {c : Str} {K : PySem.W.Frag} (h : tysB c K = true) {T : String} (hT : T ∈ ["NoneType", "bool", "int", "str", "tuple", "list"]) : PySem.W.kitOne K (.type T) (.ref (He.ga K c)) = some false := of_decide_eq_true (List.all_eq_true.mp h T hT)
/-- an object of the class d asked for c -/
def subB (c d : Str) (b : Bool) : Ex := fun K => insB d K && decide (PySem.W.kitOne K (.ref (He.ga K d)) (.ref (He.ga K c)) = some b)
/-- the answer by the data; tb: the answers for the classes -/
def isiCls (tb : List (Str × Bool)) : D → Option Bool
  | .non => some false
  | .bl _ => some false
  | .int _ => some false
  | .str _ => some false
  | .tup _ => some false
  | .lst _ => some false
  | .obj d _ _ => tb.lookup d
  | _ => none
def isiO (c : Str) (tb : List (Str × Bool)) : ON := fun rs st => match rs with
  | [r, .val (.gl x)] => if x = c then (match look st r with
    | some d => (match isiCls tb d with
      | some b => .ok (.val (.bl b)) st
      | none => .bad)
    | none => .bad) else .bad
  | _ => .bad
section
variable {X : Cx} {W : WX} {c : Str}
theorem look_obj {K : PySem.W.Frag} {E : Ent} {B F H : Hp} {st : DSt} {σ : L2.St} {r : R} {v : V} {d : Str} {ns : List Str} {ds : List D} (s : SR K E F H st σ) (h : RR K E B F H st σ r v) (l : look st r = some (.obj d ns ds)) : ∃ a dx fs, v = .ref a ∧ H a = some (.ins (He.ga K d) dx fs) := by
  have fromVal : Rep K F (.obj d ns ds) v → ∃ a dx fs, v = .ref a ∧ H a = some (.ins (He.ga K d) dx fs) := fun q => by
    simp only [Rep] at q
    obtain ⟨a, dx, vs, e1, e2, _⟩ := q
    exact ⟨a, dx, _, e1, s.ex _ _ e2⟩
  cases r with
  | val d' =>
    cases l
    exact fromVal h
  | «at» i =>
    obtain ⟨h1, _⟩ := h
    rcases look_at l with e | ⟨ys, e0, _⟩
    · obtain ⟨w, q1, q2⟩ := s.val i _ e
      rw [h1] at q1
      cases q1
      exact fromVal q2
    · cases e0
  | tmp xs => cases l
theorem pn_isiO {K : PySem.W.Frag} {tb : List (Str × Bool)} (ht : tysB c K = true) (hs : ∀ d b, tb.lookup d = some b → Cls K (He.ga K d) ∧ subB c d b K = true) : PN K W (rIsi K) (isiO c tb) := by
  intro E Fb Hb stb F H st σ rs vs Q s p h q
  unfold isiO at q
  split at q
  · rename_i r x
    by_cases hx : x = c
    case neg =>
      rw [if_neg hx] at q
      exact q.elim
    rw [if_pos hx] at q
    subst hx
    cases h.1 with
    | cons k1 t1 =>
      cases t1 with
      | cons k2 t2 =>
        cases t2
        have e2 := k2
        simp only [RR, Rep] at e2
        subst e2
        cases e : look st r with
        | none =>
          rw [e] at q
          exact q.elim
        | some d =>
          rw [e] at q
          simp only at q
          have fin : ∀ {v : V} {t : Value} {b : Bool}, TyX K H v t → PySem.W.kitOne K t (.ref (He.ga K x)) = some b → isiCls tb d = some b → RR K E Hb F H st σ r v → rIsi K [v, .ref (He.ga K x)] H Q := fun {v t b} hT hk hb _ => by
            rw [hb] at q
            exact ⟨v, .ref (He.ga K x), t, .ref (He.ga K x), b, rfl, .own _, hT, hk, q _ F H s p (by simp only [RR, Rep])⟩
          cases d with
          | non =>
            have ev := look_non s k1 e
            subst ev
            exact fin (.base .non) (tysB_ok ht (by simp)) rfl k1
          | bl b =>
            have ev := look_bl s k1 e
            subst ev
            exact fin (.base (.bl b)) (tysB_ok ht (by simp)) rfl k1
          | int i =>
            have ev := look_int s k1 e
            subst ev
            exact fin (.base (.int i)) (tysB_ok ht (by simp)) rfl k1
          | str z =>
            have ev := look_str s k1 e
            subst ev
            exact fin (.base (.str z)) (tysB_ok ht (by simp)) rfl k1
          | tup xs =>
            obtain ⟨a, ws, rfl, ha, ra⟩ := look_tup s k1 e
            exact fin (tyx_tup (sqT_mono s.ex ha)) (tysB_ok ht (by simp)) rfl k1
          | lst xs =>
            obtain ⟨a, ws, rfl, ha, ra⟩ := look_list s k1 e
            exact fin (.base (.lst ha)) (tysB_ok ht (by simp)) rfl k1
          | obj d' ns ds =>
            cases e3 : tb.lookup d' with
            | none =>
              rw [show isiCls tb (.obj d' ns ds) = none from e3] at q
              exact q.elim
            | some b =>
              obtain ⟨cl, sb⟩ := hs d' b e3
              obtain ⟨i1, i2⟩ := He.ba sb
              obtain ⟨a, dx, fs, rfl, ha⟩ := look_obj s k1 e
              exact fin (.base (insB_ok i1 cl ha)) (of_decide_eq_true i2) e3 k1
          | scr xs => exact q.elim
          | dic ks ds => exact q.elim
          | ty n => exact q.elim
          | gl y => exact q.elim
  · exact q.elim
def dIsiO (c : Str) (tb : List (Str × Bool)) (g : DA) : DX := dArgs (isiO c tb) g
theorem de_isiO {a b : Expr} {g : DA} {p pos : Pos} {tb : List (Str × Bool)} (ht : tysB c X.K = true) (hs : ∀ d b, tb.lookup d = some b → Cls X.K (He.ga X.K d) ∧ subB c d b X.K = true) (hg : Gl X "isinstance") (hm : X.mg "isinstance" = none) (ha : DAs X W [a, b] g)
    (he : starEach [a, b] X.env = (false, eval a X.env) :: starEach [b] X.env := by rfl) (hpl : (backTo pos (starEach [b] X.env)).any (·.1) = false := by rfl) : DE X W (.Call (.Name "isinstance" p) [a, b] [] pos) (dIsiO c tb g) :=
  de_callB call_isi (pn_isiO ht hs) hg hm boot_isinstance ha (by decide) (by decide) he hpl
/-! ### the module's constants -/
theorem de_gint {x : Str} {n : Int} {pos : Pos} (hg : Gl X x) (hm : ∃ t, X.mg x = some (.int n t)) (hd : (x == ("__debug__" : Str)) = false := by decide) : DE X W (.Name x pos) (dC (.int n)) := by
  obtain ⟨t, hm⟩ := hm
  exact de_const (v := .int n) (pe_glob hg hm ⟨t, rfl⟩ hd) fun F => by simp only [Rep]
theorem de_gstr {x z : Str} {pos : Pos} (hg : Gl X x) (hm : ∃ t, X.mg x = some (.str z t)) (hd : (x == ("__debug__" : Str)) = false := by decide) : DE X W (.Name x pos) (dC (.str z)) := by
  obtain ⟨t, hm⟩ := hm
  exact de_const (v := .str z) (pe_glob hg hm ⟨t, rfl⟩ hd) fun F => by simp only [Rep]
end
end Dl

namespace Dl
open PySem L2 PySem.Spec PyProof.Rows
variable [ExI]
/-! ### super().__init__(..) of an exception over ValueError -/
section
variable {prog : Program} {w : World} {A : Around} {E : Value → Shared → Prop} {h : Heap} {g : Array GenState} {d : Drawn} {t : Nat} {os : OsState}
variable {nm q : Str} {C N : Addr} {bs bm : List Value} {hdct : Bool} {sn : List Str} {sub : List Value} {ab : Bool} {col : Option Bool} {dd : Option Addr} {k0 k1 k2 k3 k5 : Option Value}
/-- the bound ValueError.__init__ is called: the object's arguments are laid anew -/
theorem call_vw {u e : Addr} {t0 : Addr} {rest : List Value} {Q : Value → Shared → Prop}
    (hC : h.get? C = some (excClassObj nm q C N bs bm hdct sn sub ab col dd k0 k1 k2 k3 k5 "ValueError.__new__")) (he : h.get? e = some (HandSPX.excO C t0)) (hu : h.get? u = some (PySem.W.kxs_mw "ValueError.__init__" e)) (hrest : rest.length ≤ sizeLine)
    (hq : ∀ h' t1, (∀ b o, b ≠ e → h.get? b = some o → h'.get? b = some o) → h'.get? e = some (HandSPX.excO C t1) → Q .none ⟨h', g, d, t, os⟩) :
    wpAny (model prog w) A (call (.ref u) rest) Q E ⟨h, g, d, t, os⟩ := by
  refine wpAny_call (codeAny_of_tree ?_)
  show wpAny _ A.in1 (callAny (.ref u) ⟨rest, []⟩) _ _ _
  simp only [callAny]
  refine wpAny_bind (wpAny_load hu ?_)
  simp only [PySem.W.kxs_mw, show (Value.type "method-wrapper" == Value.type "method" || Value.type "method-wrapper" == Value.type "builtin_function_or_method" || Value.type "method-wrapper" == Value.type "method-wrapper") = true by decide, if_true]
  refine W.KFB.if_so (by decide) ?_
  refine wpAny_bind (ESX.check_bound F.excBase_ValueError hC he rfl ?_)
  refine wpAny_bind (wpAny_pure (wpAny_pure ?_))
  refine ⟨Code.quiet_builtin _ (by decide +kernel), codeAny_builtin F.excBase_ValueError.initEntry ?_⟩
  rw [Around.under_plainId F.excBase_ValueError.init.plain _]
  wp_walk
  refine hq _ h.objs.size (fun b o hb ho => ?_) ?_
  · rw [Heap.get?_update_other _ _ (Ne.symm hb)]
    exact Heap.get?_push_of_some _ ho
  · rw [Heap.get?_update_self _ (Heap.get?_push_of_some _ he) rfl]
    rfl
end
/-- what the written part says of an __init__ that asks super(), a def at f of the class at C -/
structure SupF (K : PySem.W.Frag) (P : Program) (F : NdefX.NF) (f C : Addr) (s0 : Str) : Prop where
  lk : ∃ oc od sl doc pm ctv, K.lookup f = some ⟨oc, od, .func (F.fd doc pm ctv), sl⟩
  par : ∃ ar, (F.params.posonlyargs ++ F.params.args).head? = some ar ∧ ar.arg = s0
  code : ∃ ccl cdd vs ccs file tf, K.lookup F.c = some ⟨ccl, cdd, .fields vs, ccs⟩ ∧ vs[2]? = some (.str file tf) ∧ ((P.main.file : Str) == file) = true
  cd : PySem.W.codeIn K (.ref F.c) F.qual = true
  cell : ∃ cc cl cld csl, F.cl = [(("__class__" : Str), cc)] ∧ K.lookup cc = some ⟨cl, cld, .cell (some (.ref C)), csl⟩
  cls : ∃ cdC, PySem.W.clsIn K C = some cdC
  self : PySem.W.mroIn K C (.ref C) = some true
  init : PySem.W.ks_superIn K C C "__init__" = some (some (.builtin "ValueError.__init__"))
  sub : PySem.W.subIn K (.ref C) (.type "ValueError") = some true
  opq : PySem.W.nsIn K cStatics "thirdparty.any" = some none
  oex : OexC K C
  top : (P.main.scope.names.lookup ("super" : Str)).isSome = false
section
variable {X : Cx} {pins : List (Addr × Obj)} {σ : L2.St} {H : Hp} {s : Shared} {F : NdefX.NF} {f C a : Addr} {s0 msg : Str} {p0 p1 ap pos cp : Pos} {j : Nat} {E : Value → Shared → Prop}
theorem sup_init {body : List Stmt} {Q : Value → Shared → Prop} (I : Inv X pins σ H s) (T : SupF X.K X.prog F f C s0) (hN : X.N[0]? = some s0) (hσ : σ[0]? = some (some (.ref a))) (ha : H a = some (exo a C none)) (hm : X.mg "super" = none)
    (hfu : X.env.func = some f) (hco : X.env.code = .ref F.c) (hce : X.env.cells = F.cl) (hks : X.env.kindOf "super" = some .globalImplicit) (hkc : X.env.kindOf "__class__" = some .free) (hka : X.env.scope.names.lookup s0 = some .local)
    (h : ∀ s', Inv X pins σ H s' → Q .none s') {pl : Sem Bool}
    (he : eval (.Call (.Attribute (.Call (.Name "super" p0) [] [] p1) "__init__" ap) [.Constant (.str msg) j cp] [] pos) X.env = (do
      let ov ← attributeBase (.Call (.Name "super" p0) [] [] p1) "__init__" X.env (eval (.Call (.Name "super" p0) [] [] p1) X.env)
      standAt ap.atName
      let (f, first) ← holding [ov] (getMethod ov "__init__" pl)
      callWith pos f first (backTo pos (starEach [.Constant (.str msg) j cp] X.env)) []))
    (hst : starEach [.Constant (.str msg) j cp] X.env = [(false, eval (.Constant (.str msg) j cp) X.env)]) :
    _root_.PySem.wpAt (model X.prog X.w) X.A (.func body X.env) (eval (.Call (.Attribute (.Call (.Name "super" p0) [] [] p1) "__init__" ap) [.Constant (.str msg) j cp] [] pos) X.env) Q X.xe s := by
  obtain ⟨oc, od, sl, doc, pm, ctv, lk⟩ := T.lk
  obtain ⟨ar, hp, rfl⟩ := T.par
  obtain ⟨ccl, cdd, vs, ccs, file, tf, hcode, hvs, hfile⟩ := T.code
  obtain ⟨cc, cl, cld, csl, hcl, hcell⟩ := T.cell
  obtain ⟨cdC, hC⟩ := T.cls
  have K := I.kIn
  obtain ⟨t1, hx⟩ := exo_at I.hok ha
  obtain ⟨oD, hD1, hD2⟩ : ∃ oD, s.heap.get? C = some oD ∧ oD.data = .cls cdC := by
    have hC' := hC
    unfold PySem.W.clsIn at hC'
    split at hC'
    · rename_i c d cd' sl' ho
      cases hC'
      exact ⟨_, K _ _ ho, rfl⟩
    · cases hC'
  have loadSelf : ∀ {Q' : Value → Shared → Prop}, Q' (.ref a) s → wpAny (model X.prog X.w) X.A (loadName X.env ar.arg) Q' X.xe s := fun {Q'} hq => by
    obtain ⟨m, hn, hl⟩ := I.loc
    obtain ⟨u, ru, lu⟩ := hl 0 ar.arg (.ref a) hN hσ (.inl hka)
    cases (show u = Value.ref a from ru)
    rcases lu with ⟨_, lu⟩ | ⟨z, _⟩
    · exact wpAny_loadName_local I.ok.kind hka hn lu hq
    · rcases z with z | z
      · rw [show X.env.kindOf ar.arg = some .local from hka] at z; cases z
      · rw [show X.env.kindOf ar.arg = some .local from hka] at z; cases z
  refine ks_wpAt_MethodCall (pl := pl) ?_ he
  refine ks_wpAt_super_base (cc := F.c) hks hkc (by decide) hfu (K _ _ lk) rfl hp hco (K _ _ hcode) rfl hvs hfile T.top ?_
  obtain ⟨mb, hb1, hb2⟩ := I.mod.blt
  refine PySem.W.ks_loadName_global I.ok.kind hks (Calls.loadGlobal_builtin (by rw [I.ok.glob]; exact I.mod.glob.keeps I.bk) hm (by rw [I.ok.blt]; exact hb1.keeps I.bk) ((hb2 _ (by decide)).trans (show bootBuiltins "super" = some (.type "super") by decide +kernel)) ⟨rfl, ?_⟩)
  refine wpAny_loadName_free I.ok.kind hkc (by rw [hce, hcl]; rfl) ⟨_, K _ _ hcell, rfl⟩ ?_
  refine loadSelf ?_
  obtain ⟨hh, g, d, t, os⟩ := s
  refine ks_wpAny_isType_cls hD1 hD2 ⟨rfl, ?_⟩
  refine ks_wpAny_call_super hD1 hD2 hx rfl (fun c z => nomatch z) (PySem.W.looks_mroIn K T.self) fun h' hso k1 => ?_
  have I1 : Inv X pins σ H ⟨h', g, d, t, os⟩ := I.kept (t' := t) k1
  have K1 := I1.kIn
  obtain ⟨t2, hx1⟩ := exo_at I1.hok ha
  have hty : PySem.W.Looks (model X.prog X.w) h' (typeOf (.ref a)) (.ref C) := (PySem.W.Looks.ld hx1).andThen .now
  have hI : PySem.W.Looks (model X.prog X.w) h' (isInstance (.ref a) (.type "ValueError")) true := hty.andThen (PySem.W.looks_subIn K1 T.sub)
  have hin := T.init
  unfold PySem.W.ks_superIn at hin
  rw [hC] at hin
  have neC : a ≠ C := fun z => by
    rw [z, k1 _ _ hD1] at hx1
    cases hx1
    cases hD2
  refine PySem.W.kxs_getMethod PySem.W.kxs_ValueError hso (PySem.W.looks_opaque K1 T.opq) (l₀ := cdC.mro) (fun A Q E s k q => wpAny_bind ((PySem.W.looks_clsIn K1 hC) A _ E s k (wpAny_pure q))) rfl K1 hin hI neC (by decide) ?_
  have I2 : Inv X ((h'.objs.size, PySem.W.kxs_mw "ValueError.__init__" a) :: pins) σ H ⟨h'.push (PySem.W.kxs_mw "ValueError.__init__" a), g, d, t + 1, os⟩ :=
    ClX.pin_new (t' := t + 1) I1 (fun _ _ z => Heap.get?_push_of_some _ z) (Nat.le_refl _) (Heap.get?_push_size h' rfl) (fun v z => nomatch z)
  have run : wpAny (model X.prog X.w) X.A (spliced (backTo pos (starEach [.Constant (.str msg) j cp] X.env))) (AP X ((h'.objs.size, PySem.W.kxs_mw "ValueError.__init__" a) :: pins) σ fun vs H1 => H1 = H ∧ vs.length = 1) X.xe ⟨h'.push (PySem.W.kxs_mw "ValueError.__init__" a), g, d, t + 1, os⟩ :=
    (pa_cons (pe_str (X := X)) pa_nil hst).run pos _ _ σ H (fun vs H1 => H1 = H ∧ vs.length = 1) I2 ⟨rfl, rfl⟩
  rw [hst] at run ⊢
  refine PySem.W.kxs_callWith (i := "ValueError.__init__") (x := a) rfl (Calls.evalArgs_plain (thn run fun us s3 ⟨vs', H3, I3, r3, e3, l3⟩ => ?_))
  subst e3
  refine ⟨ClX.pin_at I3, ?_⟩
  obtain ⟨nm, q, N', bs, bm, sn, sub', ab, col, dd', k0, k1', k2, k3, k5, hCo, hbm⟩ := T.oex.cls
  obtain ⟨t3, hx3⟩ := exo_at I3.hok ha
  obtain ⟨h3, g3, d3, tk3, os3⟩ := s3
  refine call_vw (I3.kIn _ _ hCo) hx3 (ClX.pin_at I3) (show us.length ≤ sizeLine by rw [← r3.length, l3]; decide) fun h4 t4 k4 hx4 => ?_
  have J := I3.write (t' := tk3) (x := a) (e := a) (o := exo a C none) (by rw [ha]; exact True.intro) (.inl rfl) k4 ⟨_, hx4⟩ (exo_ok hx4)
  have eu : upd H3 a (exo a C none) = H3 := by
    funext b
    by_cases hb : b = a
    · rw [hb, upd_same, ha]
    · rw [upd_ne hb]
  rw [eu] at J
  exact h _ (ClX.unpin J)
end
/-! ### such an __init__ -/
section
variable {P : Program} {w : World} {K : PySem.W.Frag} {mg : Str → Option Value} {base : Heap} {N ps : List Str} {F : NdefX.NF} {f C : Addr} {k : Nat} {sp : Sp} {s0 msg : Str} {p0 p1 ap pos cp epos : Pos} {j : Nat} {rest : List Stmt}
theorem fnSup (T : SupF K P F f C s0) (S : NdefX.NScope N (s0 :: ps) ["__class__"] F.scope) (hm : mg "super" = none) (hks : F.scope.names.lookup ("super" : Str) = some .globalImplicit)
    (hb : ∀ (doc pm ctv : Value) (us : List Value), us.length = (s0 :: ps).length → bindArgs (F.fd doc pm ctv) ⟨us, []⟩ = pure ((s0 :: ps).zip us)) (len : ∀ vs H Q E, sp vs H Q E → vs.length = (s0 :: ps).length)
    (hbd : F.body = .Expr (.Call (.Attribute (.Call (.Name "super" p0) [] [] p1) "__init__" ap) [.Constant (.str msg) j cp] [] pos) epos :: rest) {pl : Sem Bool}
    (he : ∀ L, eval (.Call (.Attribute (.Call (.Name "super" p0) [] [] p1) "__init__" ap) [.Constant (.str msg) j cp] [] pos) (NdefX.envF F f L) = (do
      let ov ← attributeBase (.Call (.Name "super" p0) [] [] p1) "__init__" (NdefX.envF F f L) (eval (.Call (.Name "super" p0) [] [] p1) (NdefX.envF F f L))
      standAt ap.atName
      let (f', first) ← holding [ov] (getMethod ov "__init__" pl)
      callWith pos f' first (backTo pos (starEach [.Constant (.str msg) j cp] (NdefX.envF F f L))) []))
    (hst : ∀ L, starEach [.Constant (.str msg) j cp] (NdefX.envF F f L) = [(false, eval (.Constant (.str msg) j cp) (NdefX.envF F f L))])
    (hsw : ∀ L, swapsWith (.Call (.Attribute (.Call (.Name "super" p0) [] [] p1) "__init__" ap) [.Constant (.str msg) j cp] [] pos) none epos.line (NdefX.envF F f L) = pure false)
    (hin : ∀ L, interactive (NdefX.envF F f L) = false)
    (hbody : ∀ (A : Around) (outer : List Env) (s : Shared) (H : Hp) (vs : List V) (Q : VK) (E : XK), Room k (A.deeper (NdefX.envF F f s.heap.objs.size)) → sp vs H Q E →
      ∃ t a ws, vs = .ref a :: ws ∧ H a = some (exo a C none) ∧ PSs (NdefX.ncx (L2.CX P w) P w K mg base N F f A outer s H E) rest t ∧ t { nx := fun _ H' => Q .non H', rt := Q } (NdefX.startF N vs [some (.ref C)]) H) :
    FnR P w K mg base (L2.CX P w) (k + 1) f sp := by
  intro A outer s H us vs Q E hr e0 r hsp
  have hl := len _ _ _ _ hsp
  have Kin : K.In s.heap := e0.mod.kin.keeps fun b o e => (e0.bs b o e).1
  have lim : s.heap.NoLimit := e0.mod.nolimit.keeps fun b o e => (e0.bs b o e).1
  obtain ⟨oc, od, sl, doc, pm, ctv, lk⟩ := T.lk
  obtain ⟨cc, cl, cld, csl, hcl, hcell⟩ := T.cell
  have hlu : us.length = (s0 :: ps).length := by rw [← r.length]; exact hl
  have hcA : NdefX.CellsAt F.cl ["__class__"] [some (.ref C)] s.heap H := by
    have hz := e0.bs cc _ (e0.mod.kin _ _ hcell)
    refine ⟨rfl, fun y c hy => ?_, fun x y c hx hy => ?_, fun i y hi => ?_⟩
    · rw [hcl] at hy
      by_cases ey : y = "__class__"
      · subst ey
        have : c = cc := by simpa [List.lookup] using hy.symm
        subst this
        exact ⟨hz.2, some (.ref C), _, hz.1, rfl⟩
      · have : (y == ("__class__" : Str)) = false := by simpa using ey
        simp [List.lookup, this] at hy
    · rw [hcl] at hx hy
      have g : ∀ z, List.lookup z [(("__class__" : Str), cc)] = some c → z = "__class__" := fun z hz => by
        by_cases ez : z = "__class__"
        · exact ez
        · have : (z == ("__class__" : Str)) = false := by simpa using ez
          simp [List.lookup, this] at hz
      rw [g x hx, g y hy]
    · cases i with
      | zero =>
        simp at hi
        subst hi
        refine ⟨cc, by rw [hcl]; rfl, fun v hv => ?_⟩
        simp at hv
        subst hv
        exact ⟨.ref C, rfl, _, hz.1, rfl⟩
      | succ i => simp at hi
  refine ks_codeAny_call_defAt (fd := F.fd doc pm ctv) (body := F.body) (binds := (s0 :: ps).zip us) hr.depth (Kin _ _ lk) rfl lim (PySem.W.codeRec_of Kin T.cd) rfl (.of_eq (hb doc pm ctv us hlu)) S.nocell (fun ⟨n, _⟩ hy => S.par n (List.of_mem_zip hy).1) (fun h₁ hns kp => ?_) S.co S.gen S.kind
  obtain ⟨t, a, ws, ev, ha, ht, hq⟩ := hbody A outer s H vs Q E (hr.deeper _) hsp
  have I : Inv (NdefX.ncx (L2.CX P w) P w K mg base N F f A outer s H E) [] (NdefX.startF N vs [some (.ref C)]) H { s with heap := h₁, toks := s.toks + ((s0 :: ps).zip us).length } := NdefX.inv_startN S hr.hd e0 hl r hcA hns kp
  rw [hbd]
  have h0 : N[0]? = some s0 := by
    have q := S.pre
    have : (N.take ((s0 :: ps).length + 1))[0]? = some s0 := by rw [show (s0 :: ps).length + 1 = (s0 :: ps).length + [("__class__" : Str)].length from rfl, q]; rfl
    rw [List.getElem?_take] at this
    simpa using this
  have hσ : (NdefX.startF N vs [some (.ref C)])[0]? = some (some (.ref a)) := by
    rw [ev]
    rfl
  have fin : ∀ {σ' : L2.St} {H' : Hp} {s' : Shared} {v : V} {u : Value}, Inv (NdefX.ncx (L2.CX P w) P w K mg base N F f A outer s H E) [] σ' H' s' → L2.RelV v u → Q v H' → CE outer P w H s Q u s' :=
    fun {σ' H' s' v u} J rv q => ⟨v, H', J.os, J.bare, J.base, J.hok, rv, q⟩
  refine ks_wpAt_execs_cons (ks_wpAt_Expr_any ?_ (hin _) (hsw _))
  refine sup_init (X := NdefX.ncx (L2.CX P w) P w K mg base N F f A outer s H E) (C := C) I T h0 hσ ha hm rfl rfl rfl hks (S.frk _ (by simp)) (S.par _ (by simp)) (fun s1 I1 => ?_) (he _) (hst _)
  refine wpAt_of_wpAny (wpAny_mono (ht.run [] _ _ H _ I1 hq) (fun fl s' hs => ?_) fun e s' hs => hs)
  cases fl with
  | ret u =>
    obtain ⟨v, σ', H', J, rv, q⟩ := hs
    exact fin J rv q
  | next =>
    obtain ⟨σ', H', J, q⟩ := hs
    exact fin (v := V.non) (u := Value.none) J rfl q
  | brk =>
    obtain ⟨_, _, _, q⟩ := hs
    exact False.elim q
  | cont =>
    obtain ⟨_, _, _, q⟩ := hs
    exact False.elim q
end
end Dl

namespace Dl
open PySem L2 PySem.Spec PyProof.Rows
variable [ExI]
/-! ### raise C(..) -/
/-- where the __init__ of C has set the fields fs, in the order of the text -/
def spE (C : Addr) (fs : List Str) : Sp := fun vs H Q _ => ∃ a ws, vs = .ref a :: ws ∧ ws.length = fs.length ∧ H a = some (exo a C none) ∧
  ∀ dx, H dx = none → dx ≠ a → Q .non (upd (upd H dx (exd dx (fs.zip ws).reverse)) a (exo a C (some dx)))
section
variable {X : Cx} {C fI : Addr} {k : Nat} {sp : Sp} {x : Str} {e : Expr} {es : List Expr} {ta : TA} {p pos : Pos}
theorem pmkR (T : OexC X.K C) (iC : PySem.W.findIn X.K (.ref C) "__init__" = some (some (.ref fI))) (tI : PySem.W.typeIn X.K (.ref fI) = some (.type "function"))
    (G : FnR X.prog X.w X.K X.mg X.base (L2.CX X.prog X.w) k fI sp) (hr : Room (k + 1) X.A) (hg : Gl X x) (hm : X.mg x = some (.ref C)) (ha : PA X (e :: es) ta)
    (hdb : (x == ("__debug__" : Str)) = false := by decide) (he : starEach (e :: es) X.env = (false, eval e X.env) :: starEach es X.env := by rfl) (hpl : (backTo pos (starEach es X.env)).any (·.1) = false := by rfl) :
    PMk X (.Call (.Name x p) (e :: es) [] pos) (tMkO C sp [] ta) := by
  intro pins s σ H Q I h
  obtain ⟨nm, q, N, bs, bm, sn, sub, ab, col, dd, k0, k1, k2, k3, k5, hC, hbm⟩ := T.cls
  refine wpAny_Call_Name_kw (ld_glob I hg hm ?_ hdb)
  refine PySem.W.callWith_K (h₀ := X.base) I.ok.mod.kin T.kC (thn (ha.run pos pins s σ H _ I h) fun us s1 ⟨vs, H1, I1, r1, hz, q1⟩ => ⟨I1.kIn, ?_⟩) he hpl
  show wpAny _ _ (call (.ref C) us) _ _ _
  obtain ⟨hp, g, dr, tk, os⟩ := s1
  have hsz : hp.objs.size ≤ hp.objs.size + 1 := Nat.le_succ _
  have kk : ∀ b o, hp.get? b = some o → ((hp.push (PySem.W.kdv_tup us)).push (PySem.HandSPX.excO C hp.objs.size)).get? b = some o := fun b o e => Heap.get?_push_of_some _ (Heap.get?_push_of_some _ e)
  have hq := q1 (hp.objs.size + 1) (I1.hok.fresh hsz)
  rw [List.append_nil] at hq
  have hget : ((hp.push (PySem.W.kdv_tup us)).push (PySem.HandSPX.excO C hp.objs.size)).get? (hp.objs.size + 1) = some (PySem.HandSPX.excO C hp.objs.size) := by heap_get
  have I2 : Inv X pins σ (upd H1 (hp.objs.size + 1) (exo (hp.objs.size + 1) C none)) ⟨(hp.push (PySem.W.kdv_tup us)).push (PySem.HandSPX.excO C hp.objs.size), g, dr, tk, os⟩ := I1.laid (t' := tk) kk hsz (exo_ok hget)
  have hus : us.length ≤ sizeLine := by
    rw [← Paired.length r1, sizeLine_eq]
    omega
  refine wpAny_call (PySem.HandSPX.call_own F.excBase_ValueError (fun Y => PySem.HandSPX.refsVE_contains Y bm hbm) (I1.kIn _ _ hC) (PySem.W.looks_findIn I1.kIn iC) (fun self => PySem.W.bind_fn I1.kIn self tI) hus
    (codeAny_mono (G _ X.stack _ _ (Value.ref (hp.objs.size + 1) :: us) (V.ref (hp.objs.size + 1) :: vs) _ (fun _ _ _ => False) (hr.make C us []) (I2.env0.make C us []) (.cons rfl r1) hq) fun r s' hq' => ?_))
  cases r with
  | error er =>
    obtain ⟨_, _, _, _, _, _, _, _, _, _, _, _, z⟩ := hq'
    exact z.elim
  | ok fl =>
    cases fl with
    | ret u =>
      obtain ⟨v, H2, os2, bare2, un2, hok2, rv, ev, d, fs, ea, ed, hd1, q2⟩ := hq'
      subst ev
      obtain ⟨h2, g2, d2, t2, os'⟩ := s'
      exact ⟨rv, mk_end (raises_own T.exC T.tyC) I1 hsz kk un2 hok2 os2 bare2 ea ed hd1 q2⟩
    | next => exact False.elim hq'
    | brk => exact False.elim hq'
    | cont => exact False.elim hq'
end
/-- the data that an error bears, the fields as the text sets them -/
def excOf (c : Str) (fs : List Str) (as : List D) : Exn := ⟨c, fs.reverse, as.reverse⟩
def dRaise (c : Str) (fs : List Str) (g : DA) : DS := toFl g fun rs st => match frzs rs st with
  | some (as, st1) => if as.length = fs.length ∧ as.length < 900 then .exc (excOf c fs as) st1 else .bad
  | none => .bad
theorem RepL.reverse {K : PySem.W.Frag} {F : Hp} : ∀ {xs : List D} {vs : List V}, RepL K F xs vs → RepL K F xs.reverse vs.reverse
  | [], vs, r => by
    rw [repL_nil.mp r]
    exact RepL.nil
  | x :: xs, vs, r => by
    obtain ⟨v, ws, rfl, r1, r2⟩ := repL_cons.mp r
    simp only [List.reverse_cons]
    exact (RepL.reverse r2).append (RepL.one r1)
theorem zip_rev {α β : Type} : ∀ {xs : List α} {ys : List β}, xs.length = ys.length → (xs.zip ys).reverse = xs.reverse.zip ys.reverse
  | [], [], _ => rfl
  | x :: xs, y :: ys, h => by
    have h' : xs.length = ys.length := by simpa using h
    simp only [List.zip_cons_cons, List.reverse_cons]
    rw [zip_rev h', List.zip_append (by simpa using h')]
    rfl
  | [], y :: ys, h => by simp at h
  | x :: xs, [], h => by simp at h
section
variable {X : Cx} {W : WX} {fI : Addr} {k : Nat} {c : Str} {e : Expr} {es : List Expr} {g : DA} {p pos rpos : Pos} {fs : List Str}
theorem ds_raise (T : OexC X.K (He.ga X.K c)) (iC : PySem.W.findIn X.K (.ref (He.ga X.K c)) "__init__" = some (some (.ref fI))) (tI : PySem.W.typeIn X.K (.ref fI) = some (.type "function"))
    (G : FnR X.prog X.w X.K X.mg X.base (L2.CX X.prog X.w) k fI (spE (He.ga X.K c) fs)) (hc : X.calm = true) (tk : Takes X W) (hr : Room (k + 1) X.A) (hg : Gl X c) (hm : X.mg c = some (.ref (He.ga X.K c))) (ha : DAs X W (e :: es) g)
    (hdb : (c == ("__debug__" : Str)) = false := by decide) (he : starEach (e :: es) X.env = (false, eval e X.env) :: starEach es X.env := by rfl) (hpl : (backTo pos (starEach es X.env)).any (·.1) = false := by rfl) :
    DSj X W (.Raise (some (.Call (.Name c p) (e :: es) [] pos)) none rpos) (dRaise c fs g) := by
  refine ⟨ps_imp (ps_raise hc tk (pmkR T iC tI G hr hg hm ha.pa hdb he hpl)) fun D σ H ⟨E, F, st, s, q⟩ => ?_⟩
  refine Rd.part s q fun vs F1 H1 st1 rs s1 p1 h1 q1 => ?_
  cases e2 : frzs rs st1 with
  | none =>
    rw [e2] at q1
    exact q1.elim
  | some z =>
    obtain ⟨as, st2⟩ := z
    rw [e2] at q1
    simp only at q1
    by_cases hz : as.length = fs.length ∧ as.length < 900
    case neg =>
      rw [if_neg hz] at q1
      exact q1.elim
    rw [if_pos hz] at q1
    obtain ⟨F2, s2, p2, r2, x2⟩ := frzs_ok s1 p1 h1 e2
    have al := r2.length
    refine ⟨by omega, fun a han => ⟨a, vs, by simp, by omega, upd_same, fun dx hdx hne => ⟨rfl, dx, (fs.zip vs).reverse, upd_same, ?_, ?_, ?_⟩⟩⟩
    · rw [upd_ne hne, upd_same]
    · rw [upd_ne hne] at hdx
      exact hdx
    · have hdx1 : H1 dx = none := by
        rw [upd_ne hne] at hdx
        exact hdx
      have eH : upd (del (upd (upd (upd H1 a (exo a (He.ga X.K c) none)) dx (exd dx (fs.zip vs).reverse)) a (exo a (He.ga X.K c) (some dx))) a) dx (.xd (fs.zip vs).reverse) = upd H1 dx (.xd (fs.zip vs).reverse) := by
        funext b
        by_cases hb : b = dx
        · rw [hb, upd_same, upd_same]
        · rw [upd_ne hb, upd_ne hb]
          by_cases hba : b = a
          · rw [hba, del_same, han]
          · rw [del_ne hba, upd_ne hba, upd_ne hb, upd_ne hba]
      rw [eH]
      refine q1 _ _ σ (upd F2 dx (.xd (fs.zip vs).reverse)) _ (s2.growF hdx1) (x2.trans (s2.stpGrowF hdx1).ex) ⟨rfl, .inr ⟨dx, vs.reverse, rfl, ?_, ?_, RepL.mono (s2.stpGrowF hdx1).ex _ (RepL.reverse r2)⟩⟩
      · rw [upd_same]
        have : (fs.zip vs).reverse = fs.reverse.zip vs.reverse := zip_rev (by omega)
        show some (HO.xd (fs.zip vs).reverse) = some (.xd ((excOf c fs as).ns.zip vs.reverse))
        rw [this]
        rfl
      · show fs.reverse.length = as.reverse.length
        simp [hz.1]
end
end Dl

namespace Dl
open PySem L2 PySem.Spec PyProof.Rows
variable [ExI]
/-! ### __init__ of an own exception with one field, with two fields -/
section
variable {P : Program} {w : World} {K : PySem.W.Frag} {mg : Str → Option Value} {base : Heap} {N : List Str} {F : NdefX.NF} {f C : Addr} {k : Nat} {s0 a1 a2 f1 f2 msg : Str} {p0 p1 ap pos cp epos : Pos} {j : Nat} {st1 st2 : Stmt}
/-- what is the same of both: the first statement -/
structure Sup1 (K : PySem.W.Frag) (P : Program) (mg : Str → Option Value) (F : NdefX.NF) (f C : Addr) (N : List Str) (s0 : Str) (ps : List Str) (rest : List Stmt) : Prop where
  t : SupF K P F f C s0
  s : NdefX.NScope N (s0 :: ps) ["__class__"] F.scope
  mg : mg "super" = none
  ks : F.scope.names.lookup ("super" : Str) = some .globalImplicit
  bind : ∀ (doc pm ctv : Value) (us : List Value), us.length = (s0 :: ps).length → bindArgs (F.fd doc pm ctv) ⟨us, []⟩ = pure ((s0 :: ps).zip us)
  body : ∃ (p0 p1 ap pos cp epos : Pos) (j : Nat) (msg : Str) (pl : Sem Bool), F.body = .Expr (.Call (.Attribute (.Call (.Name "super" p0) [] [] p1) "__init__" ap) [.Constant (.str msg) j cp] [] pos) epos :: rest ∧
    (∀ L, eval (.Call (.Attribute (.Call (.Name "super" p0) [] [] p1) "__init__" ap) [.Constant (.str msg) j cp] [] pos) (NdefX.envF F f L) = (do
      let ov ← attributeBase (.Call (.Name "super" p0) [] [] p1) "__init__" (NdefX.envF F f L) (eval (.Call (.Name "super" p0) [] [] p1) (NdefX.envF F f L))
      standAt ap.atName
      let (f', first) ← holding [ov] (getMethod ov "__init__" pl)
      callWith pos f' first (backTo pos (starEach [.Constant (.str msg) j cp] (NdefX.envF F f L))) [])) ∧
    (∀ L, starEach [.Constant (.str msg) j cp] (NdefX.envF F f L) = [(false, eval (.Constant (.str msg) j cp) (NdefX.envF F f L))]) ∧
    (∀ L, swapsWith (.Call (.Attribute (.Call (.Name "super" p0) [] [] p1) "__init__" ap) [.Constant (.str msg) j cp] [] pos) none epos.line (NdefX.envF F f L) = pure false) ∧
    (∀ L, interactive (NdefX.envF F f L) = false)
theorem spE_len {fs : List Str} {vs : List V} {H : Hp} {Q : VK} {E : XK} (h : spE C fs vs H Q E) : vs.length = fs.length + 1 := by
  obtain ⟨a, ws, rfl, hl, _⟩ := h
  simp [hl]
theorem initE1 (S : Sup1 K P mg F f C N s0 [a1] [st1]) (hno : PySem.W.findIn K (.ref C) f1 = some none)
    (h1 : ∀ (A : Around) (outer : List Env) (s : Shared) (H : Hp) (E : XK), PS (NdefX.ncx (L2.CX P w) P w K mg base N F f A outer s H E) st1 (tOst K f1 (tVar 0) (tVar 1))) :
    FnR P w K mg base (L2.CX P w) (k + 1) f (spE C [f1]) := by
  obtain ⟨p0, p1, ap, pos, cp, epos, j, msg, pl, hbd, he, hst, hsw, hin⟩ := S.body
  refine fnSup S.t S.s S.mg S.ks S.bind (fun vs H Q E h => (spE_len h).trans rfl) hbd he hst hsw hin fun A outer s H vs Q E hr h => ?_
  obtain ⟨a, ws, rfl, hl, ha, q⟩ := h
  match ws, hl with
  | [w1], _ =>
    refine ⟨_, a, [w1], rfl, ha, pss_one (h1 A outer s H E), ?_⟩
    exact ⟨w1, rfl, .ref a, rfl, a, C, rfl, S.t.oex, hno, .inl ⟨ha, fun dx hd hn => q dx hd hn⟩⟩
theorem initE2 (S : Sup1 K P mg F f C N s0 [a1, a2] [st1, st2]) (hno1 : PySem.W.findIn K (.ref C) f1 = some none) (hno2 : PySem.W.findIn K (.ref C) f2 = some none)
    (h1 : ∀ (A : Around) (outer : List Env) (s : Shared) (H : Hp) (E : XK), PS (NdefX.ncx (L2.CX P w) P w K mg base N F f A outer s H E) st1 (tOst K f1 (tVar 0) (tVar 1)))
    (h2 : ∀ (A : Around) (outer : List Env) (s : Shared) (H : Hp) (E : XK), PS (NdefX.ncx (L2.CX P w) P w K mg base N F f A outer s H E) st2 (tOst K f2 (tVar 0) (tVar 2))) :
    FnR P w K mg base (L2.CX P w) (k + 1) f (spE C [f1, f2]) := by
  obtain ⟨p0, p1, ap, pos, cp, epos, j, msg, pl, hbd, he, hst, hsw, hin⟩ := S.body
  refine fnSup S.t S.s S.mg S.ks S.bind (fun vs H Q E h => (spE_len h).trans rfl) hbd he hst hsw hin fun A outer s H vs Q E hr h => ?_
  obtain ⟨a, ws, rfl, hl, ha, q⟩ := h
  match ws, hl with
  | [w1, w2], _ =>
    refine ⟨_, a, [w1, w2], rfl, ha, pss_cons (h1 A outer s H E) (pss_one (h2 A outer s H E)), ?_⟩
    refine ⟨w1, rfl, .ref a, rfl, a, C, rfl, S.t.oex, hno1, .inl ⟨ha, fun dx hd hn => ?_⟩⟩
    refine ⟨w2, rfl, .ref a, rfl, a, C, rfl, S.t.oex, hno2, .inr ⟨dx, [(f1, w1)], upd_same, by rw [upd_ne hn, upd_same], by simp, ?_⟩⟩
    have eH : upd (upd (upd H dx (exd dx [(f1, w1)])) a (exo a C (some dx))) dx (exd dx [(f2, w2), (f1, w1)]) = upd (upd H dx (exd dx [(f2, w2), (f1, w1)])) a (exo a C (some dx)) := by
      funext b
      by_cases hb : b = dx
      · rw [hb, upd_same, upd_ne hn, upd_same]
      · rw [upd_ne hb]
        by_cases hba : b = a
        · rw [hba, upd_same, upd_same]
        · rw [upd_ne hba, upd_ne hb, upd_ne hba, upd_ne hb]
    show Q .non _
    rw [eH]
    exact q dx hd hn
end
end Dl

namespace Dl
open PySem L2 PySem.Spec PyProof.Rows
variable [ExI]
/-! ### facts of own exceptions -/
def rawOex (K : PySem.W.Frag) (C : Addr) : Bool := match K.lookup C with
  | some ⟨.type "type", _, .cls cd, sl⟩ => (match cd.mro, sl.toList with
    | .ref C' :: bm, [_, _, _, _, some (.builtin n), _] => decide (C' = C) && (decide (n = "ValueError.__new__") && (cd.hasDict && (!cd.hasDel && PySem.HandSPX.refsVE bm)))
    | _, _ => false)
  | _ => false
theorem rawOex_ok {K : PySem.W.Frag} {C : Addr} (h : rawOex K C = true) : ∃ nm q N bs bm sn sub ab col dd k0 k1 k2 k3 k5, K.lookup C = some (excClassObj nm q C N bs bm true sn sub ab col dd k0 k1 k2 k3 k5 "ValueError.__new__") ∧ PySem.HandSPX.refsVE bm = true := by
  unfold rawOex at h
  split at h
  · rename_i dd cd sl ho
    obtain ⟨nm, bs, mro, ns, qn, hd, sn, sub, ab, col, del⟩ := cd
    obtain ⟨sl'⟩ := sl
    dsimp only at h
    split at h
    · rename_i C' bm k0 k1 k2 k3 n k5
      obtain ⟨h1, h⟩ := He.ba h
      obtain ⟨h2, h⟩ := He.ba h
      obtain ⟨h3, h⟩ := He.ba h
      obtain ⟨h4, h5⟩ := He.ba h
      have e1 := of_decide_eq_true h1
      have e2 := of_decide_eq_true h2
      have e4 : del = false := by simpa using h4
      subst e1 e2 h3 e4
      exact ⟨nm, qn, ns, bs, bm, sn, sub, ab, col, dd, k0, k1, k2, k3, k5, ho, h5⟩
    · cases h
  · cases h
def oexB (c : Str) : Ex := fun K => rawOex K (He.ga K c) && (He.eqO (PySem.W.findIn K (.ref (He.ga K c)) "__setattr__") (some (some (.builtin "object.__setattr__"))) && (decide (PySem.W.subIn K (.ref (He.ga K c)) (.type "BaseException") = some true) && (decide (PySem.W.typeIn K (.ref (He.ga K c)) = some (.type "type")) && PySem.W.keepIn K (.ref (He.ga K c)))))
theorem oexB_ok {c : Str} {K : PySem.W.Frag} (h : oexB c K = true) : OexC K (He.ga K c) := by
  obtain ⟨h1, h⟩ := He.ba h
  obtain ⟨h2, h⟩ := He.ba h
  obtain ⟨h3, h⟩ := He.ba h
  obtain ⟨h4, h5⟩ := He.ba h
  exact ⟨rawOex_ok h1, He.eqO_ok h2, of_decide_eq_true h3, of_decide_eq_true h4, h5⟩
/-! ### an __init__ with the cell of its class -/
/-- its def, its cell, its code object -/
def supAd (K : PySem.W.Frag) (c : Str) : Addr := He.ma K (He.ga K c) "__init__"
def supFd (K : PySem.W.Frag) (c : Str) : Option FuncData := match K.lookup (supAd K c) with
  | some ⟨_, _, .func fd, _⟩ => some fd
  | _ => none
def supCell (K : PySem.W.Frag) (c : Str) : Addr := match supFd K c with
  | some fd => (match fd.closure with
    | [(_, a)] => a
    | _ => 0)
  | none => 0
def supCode (K : PySem.W.Frag) (c : Str) : Addr := match supFd K c with
  | some fd => (match fd.code with
    | .ref a => a
    | _ => 0)
  | none => 0
/-- the words of such a def -/
structure SupD where
  c : Str
  qual : Str
  params : Arguments
  body : List Stmt
  scope : Scope
def SupD.nf (K : PySem.W.Frag) (d : SupD) : NdefX.NF := ⟨"__init__", d.qual, d.params, d.body, d.scope, [(("__class__" : Str), supCell K d.c)], supCode K d.c⟩
abbrev FnS : Type := Option (Str × Str × Arguments × FuncBody × Scope × Addr × List (Str × Addr) × Addr × Value × Value × Option Addr × Value)
def fnS (K : PySem.W.Frag) (c : Str) : FnS := (supFd K c).map fun fd => (fd.name, fd.qualname, fd.params, fd.body, fd.scope, fd.globals, fd.closure.map (fun q => (q.1, (0 : Nat))), fd.builtins, fd.defaults, fd.kwdefaults, fd.annotations, .none)
def SupD.val (d : SupD) : FnS := some ("__init__", d.qual, d.params, .stmts d.body, d.scope, mainGlobals, [(("__class__" : Str), (0 : Nat))], builtinsNs, .none, .none, none, .none)
theorem nf_of {K : PySem.W.Frag} {d : SupD} (e : fnS K d.c = d.val) (hc : (match supFd K d.c with | some fd => (match fd.code with | .ref _ => true | _ => false) | none => false) = true) : ∃ oc od sl doc pm ctv, K.lookup (supAd K d.c) = some ⟨oc, od, .func ((d.nf K).fd doc pm ctv), sl⟩ := by
  unfold fnS at e
  cases h : supFd K d.c with
  | none =>
    rw [h] at e
    cases e
  | some fd =>
    rw [h] at e hc
    have lk : ∃ oc od sl, K.lookup (supAd K d.c) = some ⟨oc, od, .func fd, sl⟩ := by
      unfold supFd at h
      split at h
      · rename_i oc od fd' sl hl
        cases h
        exact ⟨oc, od, sl, hl⟩
      · cases h
    obtain ⟨oc, od, sl, lk⟩ := lk
    obtain ⟨n1, n2, n3, n4, n5, n6, n7, n8, n9, n10, n11, n12, n13, n14, n15⟩ := fd
    simp only [Option.map_some, SupD.val, Option.some.injEq, Prod.mk.injEq] at e
    obtain ⟨e1, e2, e3, e4, e5, e6, e7, e8, e9, e10, e11, _⟩ := e
    subst e1 e2 e3 e4 e5 e6 e8 e9 e10 e11
    have c7 : ∃ cc, n7 = [(("__class__" : Str), cc)] := by
      cases n7 with
      | nil => simp at e7
      | cons q r =>
        cases r with
        | nil =>
          obtain ⟨y, cc⟩ := q
          simp at e7
          exact ⟨cc, by rw [e7]⟩
        | cons q' r' => simp at e7
    obtain ⟨cc, rfl⟩ := c7
    cases n13 with
    | ref a =>
      refine ⟨oc, od, sl, n10, n11, n14, ?_⟩
      rw [lk]
      unfold SupD.nf NdefX.NF.fd
      simp only [supCell, supCode, h]
    | _ => simp at hc
end Dl

namespace Dl
open PySem L2 PySem.Spec PyProof.Rows
variable [ExI]
def codeRefB (K : PySem.W.Frag) (c : Str) : Bool := match supFd K c with | some fd => (match fd.code with | .ref _ => true | _ => false) | none => false
def codeFileB (P : Program) (K : PySem.W.Frag) (c : Str) : Bool := match K.lookup (supCode K c) with
  | some ⟨_, _, .fields vs, _⟩ => (match (vs[2]? : Option Value) with
    | some (.str file _) => (P.main.file : Str) == file
    | _ => false)
  | _ => false
def cellB (K : PySem.W.Frag) (c : Str) : Bool := match K.lookup (supCell K c) with
  | some ⟨_, _, .cell (some (.ref C)), _⟩ => decide (C = He.ga K c)
  | _ => false
def supB (P : Program) (d : SupD) (s0 : Str) : Ex := fun K => codeRefB K d.c && (codeFileB P K d.c && (PySem.W.codeIn K (.ref (supCode K d.c)) d.qual && (cellB K d.c && ((PySem.W.clsIn K (He.ga K d.c)).isSome && (decide (PySem.W.mroIn K (He.ga K d.c) (.ref (He.ga K d.c)) = some true) && (He.eqO (PySem.W.ks_superIn K (He.ga K d.c) (He.ga K d.c) "__init__") (some (some (.builtin "ValueError.__init__"))) && (decide (PySem.W.subIn K (.ref (He.ga K d.c)) (.type "ValueError") = some true) && (He.eqO (PySem.W.nsIn K cStatics "thirdparty.any") (some none) && (oexB d.c K && (!(P.main.scope.names.lookup ("super" : Str)).isSome && decide (((d.params.posonlyargs ++ d.params.args).head?.map fun a => a.arg) = some s0)))))))))))
theorem supB_ok {P : Program} {d : SupD} {s0 : Str} {K : PySem.W.Frag} (e : fnS K d.c = d.val) (h : supB P d s0 K = true) : SupF K P (d.nf K) (supAd K d.c) (He.ga K d.c) s0 := by
  obtain ⟨h1, h⟩ := He.ba h
  obtain ⟨h2, h⟩ := He.ba h
  obtain ⟨h3, h⟩ := He.ba h
  obtain ⟨h4, h⟩ := He.ba h
  obtain ⟨h5, h⟩ := He.ba h
  obtain ⟨h6, h⟩ := He.ba h
  obtain ⟨h7, h⟩ := He.ba h
  obtain ⟨h8, h⟩ := He.ba h
  obtain ⟨h9, h⟩ := He.ba h
  obtain ⟨h10, h⟩ := He.ba h
  obtain ⟨h11, h12⟩ := He.ba h
  have hpar := of_decide_eq_true h12
  refine ⟨nf_of e h1, ?_, ?_, h3, ?_, ?_, of_decide_eq_true h6, He.eqO_ok h7, of_decide_eq_true h8, He.eqO_ok h9, oexB_ok h10, by simpa using h11⟩
  · obtain ⟨a, e1, e2⟩ := Option.map_eq_some_iff.mp hpar
    exact ⟨a, e1, e2⟩
  · unfold codeFileB at h2
    split at h2
    · rename_i ccl cdd vs ccs hl
      split at h2
      · rename_i file tf hv
        exact ⟨ccl, cdd, vs, ccs, file, tf, hl, hv, h2⟩
      · cases h2
    · cases h2
  · unfold cellB at h4
    split at h4
    · rename_i cl cld C csl hl
      have ec := of_decide_eq_true h4
      subst ec
      exact ⟨supCell K d.c, cl, cld, csl, rfl, hl⟩
    · cases h4
  · exact Option.isSome_iff_exists.mp h5
/-! ### the head, with such defs -/
def obsG (n : Nat) (fa : List He.Fa) (fn : List He5.DefA) (ex : List Ex) (sx : List SupD) (g : Addr → Option Obj) : (He.AlD × Bool) × List FnS := (obsE n fa fn ex g, sx.map fun d => fnS (He.frG g (He5.asA g n)) d.c)
def hookG (n : Nat) (fa : List He.Fa) (fn : List He5.DefA) (ex : List Ex) (sx : List SupD) : PySem.W.Hook where
  α := (He.AlD × Bool) × List FnS
  obs := fun s => obsG n fa fn ex sx s.heap.get?
  val := fun _ => ((He5.valA fn, true), sx.map SupD.val)
  says := fun _ h => ∃ K : PySem.W.Frag, K.In h ∧ He5.SaysA fa fn K ∧ (ex.all fun e => e K) = true ∧ (sx.map fun d => fnS K d.c) = sx.map SupD.val
  of := fun _ _ e => ⟨_, He.frG_in, congrArg (fun z : (He.AlD × Bool) × List FnS => z.1.1) e, congrArg (fun z : (He.AlD × Bool) × List FnS => z.1.2) e, congrArg (fun z : (He.AlD × Bool) × List FnS => z.2) e⟩
  keeps := fun _ _ _ ⟨K, hK, c⟩ k => ⟨K, PySem.W.Frag.In.keeps hK k, c⟩
theorem obsG_eq {n : Nat} {fa : List He.Fa} {fn : List He5.DefA} {ex : List Ex} {sx : List SupD} {g : Addr → Option Obj} {s : Shared} (h : ∀ a, g a = s.heap.get? a) : obsG n fa fn ex sx g = (hookG n fa fn ex sx).obs s := by
  rw [show g = s.heap.get? from funext h]
  rfl
structure FxG (fa : List He.Fa) (fn : List He5.DefA) (ex : List Ex) (sx : List SupD) (K : PySem.W.Frag) (mg : Str → Option Value) : Prop extends FxE fa fn ex K mg where
  sup : (sx.map fun d => fnS K d.c) = sx.map SupD.val
theorem FxG.sd {fa : List He.Fa} {fn : List He5.DefA} {ex : List Ex} {sx : List SupD} {K : PySem.W.Frag} {mg : Str → Option Value} (T : FxG fa fn ex sx K mg) (i : Nat) {d : SupD} (h : sx[i]? = some d := by rfl) : fnS K d.c = d.val := by
  have e : (sx.map fun d => fnS K d.c)[i]? = (sx.map SupD.val)[i]? := by rw [T.sup]
  rw [List.getElem?_map, List.getElem?_map, h] at e
  exact Option.some.inj e
end Dl

namespace Dl
open PySem L2 PySem.Spec PyProof.Rows
variable [ExI]
/-! ### xs.pop(i), sum(xs), list(range(n)) -/
theorem RepL.eraseIdx {K : PySem.W.Frag} {F : Hp} {xs : List D} {vs : List V} (r : RepL K F xs vs) (j : Nat) : RepL K F (xs.eraseIdx j) (vs.eraseIdx j) := by
  rw [List.eraseIdx_eq_take_drop_succ, List.eraseIdx_eq_take_drop_succ]
  exact (r.take j).append (r.drop (j + 1))
def popOp (k : Nat) : O1 := fun r st => match look st r with
  | some (.int i) => (match getC st k with
    | some xs => (match ixN xs.length i with
      | some j => (match xs[j]? with
        | some d => if smallI i then .ok (.val d) (setC st k (xs.eraseIdx j)) else .bad
        | none => .bad)
      | none => .bad)
    | none => .bad)
  | _ => .bad
def dPop (k : Nat) (fa : DX) : DX := fun st => match getC st k with
  | some _ => bnd fa (popOp k) st
  | none => .bad
section
variable {X : Cx} {W : WX} {a : Expr} {fa : DX} {pos : Pos}
theorem de_pop {k : Nat} {o : Expr} {apos : Pos} (ho : PE X o (tVar k)) (ha : DE X W a fa) (hbase : attributeBase o "pop" X.env (eval o X.env) = eval o X.env := by rfl)
    (hfew : ((backTo pos (starEach [a] X.env)).all (fun x => !x.1) && (backToKw pos (keywordEach [] X.env)).all (fun x => x.1.isSome)
      && decide ([a].length + ([] : List Keyword).length + (if ([] : List Keyword).isEmpty then 0 else 1) < 30)) = true := by rfl)
    (hline : (apos.endLine == pos.line) = true := by rfl) (hs : starEach [a] X.env = (false, eval a X.env) :: starEach [] X.env := by rfl) : DE X W (.Call (.Attribute o "pop" apos) [a] [] pos) (dPop k fa) := by
  refine ⟨pe_imp (pe_bm PySem.F.plainAttrs_list PySem.F.slot_list_pop PySem.F.type_list_pop mt_popAt ho (pa_cons ha.pe pa_nil hs) hbase hfew hline hs rfl) fun σ H Q ⟨E, F, st, s, q⟩ => ?_⟩
  unfold dPop at q
  cases e0 : getC st k with
  | none =>
    rw [e0] at q
    exact q.elim
  | some xs0 =>
    rw [e0] at q
    simp only at q
    obtain ⟨p, vs, q1, q2, q3, q4, q5, _⟩ := s.mut e0
    refine ⟨.ref p, q1, .inl ⟨rfl, vs, SqL.of q3⟩, Rd.first s q fun v F1 H1 st1 r1 s1 p1 h1 c1 => ?_⟩
    unfold popOp at c1
    cases e1 : look st1 r1 with
    | none =>
      rw [e1] at c1
      exact c1.elim
    | some d1 =>
      rw [e1] at c1
      cases d1 with
      | int i =>
        simp only at c1
        cases e2 : getC st1 k with
        | none =>
          rw [e2] at c1
          exact c1.elim
        | some xs =>
          rw [e2] at c1
          simp only at c1
          cases e3 : ixN xs.length i with
          | none =>
            rw [e3] at c1
            exact c1.elim
          | some j =>
            rw [e3] at c1
            simp only at c1
            cases e4 : xs[j]? with
            | none =>
              rw [e4] at c1
              exact c1.elim
            | some d =>
              rw [e4] at c1
              simp only at c1
              by_cases hz : smallI i = true
              case neg =>
                rw [if_neg hz] at c1
                exact c1.elim
              rw [if_pos hz] at c1
              obtain ⟨p', ws, k1, k2, k3, k4, k5, k6⟩ := s1.mut e2
              rw [q1] at k1
              cases k1
              obtain ⟨u, m1, m2⟩ := k4.get e4
              obtain ⟨z1, z2⟩ := small_of hz
              obtain ⟨s3, p3⟩ := k6 (xs.eraseIdx j) (ws.eraseIdx j) (k4.eraseIdx j)
              rw [look_int s1 h1 e1]
              refine ⟨p, ws, i, j, u, rfl, rfl, k3, by omega, by omega, ?_, m1, c1 u F1 _ s3 (p1.trans p3) m2⟩
              rw [← k4.length]
              exact (ixN_seq e3).1
      | _ => exact c1.elim
/-- sum of a list of ints -/
def intsOf : List D → Option (List Int)
  | [] => some []
  | .int i :: r => (intsOf r).map (i :: ·)
  | _ => none
theorem intsOf_ok {K : PySem.W.Frag} {F : Hp} : ∀ {xs : List D} {vs : List V} {ns : List Int}, RepL K F xs vs → intsOf xs = some ns → vs = ns.map V.int
  | [], vs, ns, r, h => by
    cases h
    exact repL_nil.mp r
  | .int i :: xs, vs, ns, r, h => by
    obtain ⟨v, ws, rfl, r1, r2⟩ := repL_cons.mp r
    simp only [intsOf, Option.map_eq_some_iff] at h
    obtain ⟨ms, h1, rfl⟩ := h
    simp only [Rep] at r1
    rw [r1, intsOf_ok r2 h1]
    rfl
  | .non :: _, _, _, _, h => by cases h
  | .bl _ :: _, _, _, _, h => by cases h
  | .str _ :: _, _, _, _, h => by cases h
  | .tup _ :: _, _, _, _, h => by cases h
  | .lst _ :: _, _, _, _, h => by cases h
  | .scr _ :: _, _, _, _, h => by cases h
  | .obj _ _ _ :: _, _, _, _, h => by cases h
  | .dic _ _ :: _, _, _, _, h => by cases h
  | .ty _ :: _, _, _, _, h => by cases h
  | .gl _ :: _, _, _, _, h => by cases h
def sumOp : ON := fun rs st => match rs with
  | [r] => (match look st r with
    | some (.lst xs) => (match intsOf xs with
      | some ns => .ok (.val (.int ns.sum)) st
      | none => .bad)
    | _ => .bad)
  | _ => .bad
theorem pn_sum {K : PySem.W.Frag} : PN K W (rSum K) sumOp := by
  intro E Fb Hb stb F H st σ rs vs Q s p h q
  unfold sumOp at q
  split at q
  · rename_i r
    cases h.1 with
    | cons h1 t =>
      cases t
      cases e : look st r with
      | none =>
        rw [e] at q
        exact q.elim
      | some d =>
        rw [e] at q
        cases d with
        | lst xs =>
          simp only at q
          cases e2 : intsOf xs with
          | none =>
            rw [e2] at q
            exact q.elim
          | some ns =>
            rw [e2] at q
            obtain ⟨a, ws, rfl, k1, k2⟩ := look_list s h1 e
            have ew := intsOf_ok k2 e2
            subst ew
            exact ⟨a, ns, rfl, SqL.of k1, q _ F H s p (by simp only [RR, Rep])⟩
        | _ => exact q.elim
  · exact q.elim
def dSum (g : DA) : DX := dArgs sumOp g
theorem de_sum {g : DA} {p : Pos} (hc : X.calm = true) (hg : Gl X "sum") (hm : X.mg "sum" = none) (ha : DAs X W [a] g) (he : starEach [a] X.env = (false, eval a X.env) :: starEach [] X.env := by rfl) : DE X W (.Call (.Name "sum" p) [a] [] pos) (dSum g) :=
  de_callB (cr_sum hc) pn_sum hg hm PyProof.Rows.boot_sum ha (by decide) (by decide) he rfl
/-- a length of list(range(n)) -/
def lstOk (n : Int) : Bool := smallI n && Nat.ble n.toNat 100000
/-- list(range(n)) -/
def dListRng (fa : DX) : DX := bnd fa fun r st => match look st r with
  | some (.int n) => if lstOk n then .ok (.tmp (rngD 0 n.toNat)) st else .bad
  | _ => .bad
theorem rep_rg {K : PySem.W.Frag} {F : Hp} {n : Int} : RepL K F (rngD 0 n.toNat) (rgV 0 n) := by
  have : ∀ l : List Nat, RepL K F (l.map fun i => D.int (0 + (i : Nat))) (l.map fun i => V.int (0 + (i : Nat))) := fun l => by
    induction l with
    | nil => exact RepL.nil
    | cons x l ih => exact RepL.cons (by simp only [Rep]) ih
  have e : (n - 0).toNat = n.toNat := by rw [Int.sub_zero]
  unfold rngD rgV
  rw [e]
  exact this _
theorem de_listRng {p p2 pos2 : Pos} (hc : X.calm = true) (hg : Gl X "list") (hm : X.mg "list" = none) (hg2 : Gl X "range") (hm2 : X.mg "range" = none) (ha : DE X W a fa)
    (na : starEach [a] X.env = (false, eval a X.env) :: starEach [] X.env := by rfl) (na2 : starEach [.Call (.Name "range" p2) [a] [] pos2] X.env = (false, eval (.Call (.Name "range" p2) [a] [] pos2) X.env) :: starEach [] X.env := by rfl) :
    DE X W (.Call (.Name "list" p) [.Call (.Name "range" p2) [a] [] pos2] [] pos) (dListRng fa) := by
  refine ⟨pe_imp (pe_listRg hc hg hm (prg_1 hg2 hm2 ha.pe na) na2) fun σ H Q ⟨E, F, st, s, q⟩ => ?_⟩
  refine Rd.first s q fun v F1 H1 st1 r s1 p1 h1 q1 => ?_
  cases e : look st1 r with
  | none =>
    rw [e] at q1
    exact q1.elim
  | some d =>
    rw [e] at q1
    cases d with
    | int n =>
      simp only at q1
      by_cases hz : lstOk n = true
      case neg =>
        rw [if_neg hz] at q1
        exact q1.elim
      rw [if_pos hz] at q1
      obtain ⟨z1, z2⟩ := He.ba hz
      obtain ⟨y1, y2⟩ := small_of z1
      have y3 : n.toNat ≤ 100000 := by simpa using z2
      refine ⟨n, look_int s1 h1 e, ⟨by omega, by omega, by omega, by omega, by omega⟩, fun b hb => q1 (.ref b) F1 _ (s1.grow hb) (p1.trans (s1.stpGrow hb)) ⟨b, _, rfl, free_F s1.ex hb, upd_same, rep_rg, s1.notOwn hb, s1.fresh0 hb, p1.live b hb⟩⟩
    | _ => exact q1.elim
end
end Dl

namespace Dl
open PySem L2 PySem.Spec PyProof.Rows
variable [ExI]
/-- the i-th statement of a class -/
def inC (st : Stmt) (i : Nat) : Stmt := match st with
  | .ClassDef _ _ _ body _ _ _ _ _ _ _ => body.getD i (.Pass ⟨0, 0, 0, 0⟩)
  | _ => .Pass ⟨0, 0, 0, 0⟩
theorem bind_star0 {B : List Value → Sem (List (Str × Value))} {pv : Str} (h0 : B [] = (newTuple [] >>= fun t => pure [(pv, t)])) (h1 : ∀ r rs, B (r :: rs) = (newTuple (r :: rs) >>= fun t => pure [(pv, t)])) :
    ∀ us rest : List Value, us.length = ([] : List Str).length → B (us ++ rest) = (newTuple rest >>= fun t => pure (([] : List Str).zip us ++ [(pv, t)]))
  | [], [], _ => h0
  | [], r :: rs, _ => h1 r rs
/-- the facts of isinstance, class by class -/
def isiAll (K : PySem.W.Frag) (c : Str) : List (Str × Bool) → Prop
  | [] => True
  | (d, b) :: r => (Cls K (He.ga K d) ∧ subB c d b K = true) ∧ isiAll K c r
theorem isi_list {K : PySem.W.Frag} {c : Str} : ∀ (tb : List (Str × Bool)), isiAll K c tb → ∀ d b, tb.lookup d = some b → Cls K (He.ga K d) ∧ subB c d b K = true
  | [], _, d, b, h => by simp at h
  | (x, y) :: r, hf, d, b, h => by
    obtain ⟨h1, h2⟩ := hf
    by_cases e : d = x
    · subst e
      simp [List.lookup] at h
      subst h
      exact h1
    · have : (d == x) = false := by simpa using e
      simp only [List.lookup, this] at h
      exact isi_list r h2 d b h
/-! ### evaluation, as equations: objects -/
section
variable {st : DSt} {i n : Nat} {c c' m x : Str} {fa fb fo : DX} {ga : DA} {f : FnD} {fI : IFn} {ns : List Str} {ds : List D} {r : R} {rs : List R} {d : D} {dds : List D}
@[simp] theorem ev_objv : objOf c (.val (.obj c' ns ds)) st = if c' = c then some (ns, ds) else none := rfl
@[simp] theorem ev_obja : objOf c (.at i) st = (match st[i]? with | some (some (.val (.obj c' ns ds))) => if c' = c then some (ns, ds) else none | some (some (.slf c' ns ds)) => if c' = c then some (ns, ds) else none | _ => none) := rfl
@[simp ↓] theorem ev_fld : dFld c m fo st = (bnd fo (fldOp c m)) st := rfl
@[simp ↓] theorem ev_fldOp : fldOp c m r st = (match objOf c r st with | some (ns, ds) => (match fldOf ns ds m with | some d => .ok (.val d) st | none => .bad) | none => .bad) := rfl
@[simp] theorem ev_fldOf0 : fldOf [] ds m = none := rfl
@[simp] theorem ev_fldOf1 : fldOf (x :: ns) (d :: ds) m = if m = x then some d else fldOf ns ds m := rfl
@[simp ↓] theorem ev_con : dCon c m d fo st = (bnd fo (conOp c m d)) st := rfl
@[simp ↓] theorem ev_conOp : conOp c m d r st = (match objOf c r st with | some (ns, _) => if ns.contains m then .bad else .ok (.val d) st | none => .bad) := rfl
@[simp ↓] theorem ev_callY : callY f rs st = (match frzs rs st with | some (as, st1) => (match f (as.map .val) with | .ok r _ => .ok r.toR st1 | .exc x _ => .exc x st1 | .bad => .bad) | none => .bad) := rfl
@[simp ↓] theorem ev_callP : callP f rs st = (match callY f rs st with | .ok r st1 => .ok r st1 | _ => .bad) := rfl
@[simp ↓] theorem ev_meth : dMeth c m f fo ga st = (bnd fo fun r st => (match objOf c r st with | some (ns, _) => if ns.contains m then .bad else bnd ga (fun rs => callY f (r :: rs)) st | none => .bad)) st := rfl
@[simp ↓] theorem ev_cmeth : dCMeth c f fo ga st = (bnd fo fun r st => (match r with | .val (.gl x) => if x = c then bnd ga (fun rs => callY f (r :: rs)) st else .bad | _ => .bad)) st := rfl
@[simp ↓] theorem ev_prop : dProp c f fo st = (bnd fo fun r st => (match objOf c r st with | some _ => callP f [r] st | none => .bad)) st := rfl
@[simp ↓] theorem ev_make : dMake c fI ga st = (bnd ga (makeOp c fI)) st := rfl
@[simp ↓] theorem ev_makeOp : makeOp c fI rs st = (match frzs rs st with | some (as, st1) => madeOf c (fI as) st1 | none => .bad) := makeOp_eq
@[simp] theorem ev_made0 : madeOf c (.ok ns ds) st = .ok (.val (.obj c ns ds)) st := rfl
@[simp] theorem ev_made1 {y : Exn} : madeOf c (.exc y) st = .exc y st := rfl
@[simp ↓] theorem ev_makeS : dMakeS c fI fa st = (bnd fa fun r st => (match itemsOf r st with | some (xs, st1) => madeOf c (fI xs) st1 | none => .bad)) st := rfl
@[simp] theorem ev_items : itemsOf r st = (match look st r with | some (.lst xs) => some (xs, st) | some (.tup xs) => some (xs, st) | _ => none) := rfl
@[simp ↓] theorem ev_ifgl : dIfGl i c fa st = if isGl i c st then fa st else .bad := rfl
@[simp] theorem ev_isgl : isGl i c st = (match st[i]? with | some (some (.val (.gl x))) => decide (x = c) | _ => false) := rfl
@[simp ↓] theorem ev_pad {args : List Arg} : padD n dds f args = if args.length + dds.length = n then f (args ++ dds.map .val) else .bad := rfl
@[simp ↓] theorem ev_padI {as : List D} : padI dds fI as = fI (as ++ dds) := rfl
theorem ev_star {args : List Arg} {np : Nat} : starD np f args = if np ≤ args.length ∧ args.length ≤ lim then (match valsOf (args.drop np) with | some ds => f (args.take np ++ [.val (.tup ds)]) | none => .bad) else .bad := rfl
theorem ev_starI {as : List D} {np : Nat} : starI np fI as = if np ≤ as.length + 1 ∧ as.length ≤ lim then fI (as.take (np - 1) ++ [.tup (as.drop (np - 1))]) else .bad := rfl
@[simp ↓] theorem ev_negO : negO c f r st = (match objOf c r st with | some _ => callP f [r] st | none => .bad) := rfl
@[simp ↓] theorem ev_binO {r' : R} : binO c f r r' st = (match objOf c r st with | some _ => (match objOf c r' st with | some _ => callP f [r, r'] st | none => .bad) | none => .bad) := rfl
@[simp ↓] theorem ev_eqO {r' : R} : eqO c f r r' st = (match objOf c r st with | some _ => if eqSide c r' st then callP f [r, r'] st else .bad | none => .bad) := rfl
@[simp] theorem ev_eqSide : eqSide c r st = (match objOf c r st with | some _ => true | none => (match look st r with | some (.tup _) => true | some .non => true | _ => false)) := rfl
@[simp ↓] theorem ev_inO {b : Bool} {r' : R} : inO b c f r r' st = (match objOf c r' st with | some _ => isBl b (callP f [r', r] st) | none => .bad) := rfl
@[simp] theorem ev_isBl {b k : Bool} : isBl b (.ok (.val (.bl k)) st) = .ok (.val (.bl (if b then !k else k))) st := rfl
@[simp ↓] theorem ev_lenO : dLenO c f ga st = bnd ga (lenO c f) st := rfl
@[simp ↓] theorem ev_lenO1 : lenO c f [r] st = (match objOf c r st with | some _ => isLen (callP f [r] st) | none => .bad) := rfl
theorem ev_isLen {k : Int} : isLen (.ok (.val (.int k)) st) = if smallI k && decide (0 ≤ k) then .ok (.val (.int k)) st else .bad := rfl
@[simp ↓] theorem ev_isiO {tb : List (Str × Bool)} : dIsiO c tb ga st = bnd ga (isiO c tb) st := rfl
@[simp ↓] theorem ev_isiO1 {tb : List (Str × Bool)} : isiO c tb [r, .val (.gl x)] st = if x = c then (match look st r with | some d => (match isiCls tb d with | some b => .ok (.val (.bl b)) st | none => .bad) | none => .bad) else .bad := rfl
@[simp ↓] theorem ev_raise {fs : List Str} : dRaise c fs ga st = (toFl ga fun rs st => (match frzs rs st with | some (as, st1) => if as.length = fs.length ∧ as.length < 900 then .exc (excOf c fs as) st1 else .bad | none => .bad)) st := rfl
@[simp ↓] theorem ev_self : dSelf c m fa st = (toFl fa fun r st => (match frz1 r st with | some (d, st2) => (match putSelf c m d st2 with | some st3 => .nx st3 | none => .bad) | none => .bad)) st := rfl
@[simp ↓] theorem ev_pop {k : Nat} : dPop k fa st = (match getC st k with | some _ => bnd fa (popOp k) st | none => .bad) := rfl
@[simp ↓] theorem ev_listRng : dListRng fa st = bnd fa (fun r st => match look st r with | some (.int n) => if lstOk n then .ok (.tmp (rngD 0 n.toNat)) st else .bad | _ => .bad) st := rfl
theorem lstOk_small {n : Int} (h0 : 0 ≤ n) (h : n ≤ 1000) : lstOk n = true := by simp [lstOk, smallI]; omega
@[simp] theorem lstOk_nat {n : Nat} (h : n ≤ 1000) : lstOk (n : Int) = true := lstOk_small (by omega) (by omega)
@[simp ↓] theorem ev_sum : dSum ga st = bnd ga sumOp st := rfl
end
end Dl

namespace Dl
open PySem L2 PySem.Spec PyProof.Rows
variable [ExI]
/-! ### slots that are forgotten -/
def wipeL : List Nat → DSt → DSt
  | [], st => st
  | i :: ws, st => wipeL ws (st.set i none)
/-- what is left behind a return: borrowed lists, and the list returned -/
def keepB : DSt → DSt
  | [] => []
  | some (.bor xs) :: st => some (.bor xs) :: keepB st
  | some (.slf c ns ds) :: st => some (.slf c ns ds) :: keepB st
  | _ :: st => none :: keepB st
def keepR : Nat → DSt → DSt
  | _, [] => []
  | 0, x :: st => x :: keepB st
  | i + 1, some (.bor xs) :: st => some (.bor xs) :: keepR i st
  | i + 1, some (.slf c ns ds) :: st => some (.slf c ns ds) :: keepR i st
  | i + 1, _ :: st => none :: keepR i st
def wipeR : R → DSt → DSt
  | .at i, st => keepR i st
  | _, st => keepB st
/-- a statement, behind which some slots are forgotten -/
def dW (ws : List Nat) (f : DS) : DS := fun st => match f st with
  | .nx s => .nx (wipeL ws s)
  | .ct s => .ct (wipeL ws s)
  | .bk s => .bk (wipeL ws s)
  | .rt r s => .rt r (wipeR r s)
  | .exc x s => .exc x (keepB s)
  | .bad => .bad
/-- the same within a try -/
def dWt (ws : List Nat) (f : DS) : DS := fun st => match f st with
  | .nx s => .nx (wipeL ws s)
  | .ct s => .ct (wipeL ws s)
  | .bk s => .bk (wipeL ws s)
  | .rt r s => .rt r (wipeR r s)
  | o => o
structure Below (st' st : DSt) : Prop where
  len : st'.length = st.length
  at_ : ∀ (i : Nat) s, st'[i]? = some (some s) → st[i]? = some (some s)
theorem Below.refl (st : DSt) : Below st st := ⟨rfl, fun _ _ h => h⟩
theorem Below.trans {a b c : DSt} (h : Below a b) (g : Below b c) : Below a c := ⟨h.len.trans g.len, fun i s e => g.at_ i s (h.at_ i s e)⟩
theorem below_set (st : DSt) (i : Nat) : Below (st.set i none) st := by
  refine ⟨List.length_set, fun j s h => ?_⟩
  rcases get_set h with ⟨_, z⟩ | ⟨_, z⟩
  · cases z
  · exact z
theorem below_wipe : ∀ (ws : List Nat) (st : DSt), Below (wipeL ws st) st
  | [], st => Below.refl st
  | i :: ws, st => (below_wipe ws _).trans (below_set st i)
theorem below_cons {st' st : DSt} {x y : Option S} (h : Below st' st) (e : y = none ∨ y = x) : Below (y :: st') (x :: st) := by
  refine ⟨by simp [h.len], fun j s z => ?_⟩
  cases j with
  | zero =>
    rcases e with rfl | rfl
    · cases z
    · exact z
  | succ j => exact h.at_ j s z
theorem below_keepB : ∀ (st : DSt), Below (keepB st) st
  | [] => Below.refl []
  | none :: st => below_cons (below_keepB st) (.inl rfl)
  | some (.val d) :: st => below_cons (below_keepB st) (.inl rfl)
  | some (.own d) :: st => below_cons (below_keepB st) (.inl rfl)
  | some (.bor d) :: st => below_cons (below_keepB st) (.inr rfl)
  | some (.slf c ns ds) :: st => below_cons (below_keepB st) (.inr rfl)
  | some (.exc x) :: st => below_cons (below_keepB st) (.inl rfl)
theorem below_keepR : ∀ (i : Nat) (st : DSt), Below (keepR i st) st
  | 0, [] => Below.refl []
  | i + 1, [] => Below.refl []
  | 0, x :: st => below_cons (below_keepB st) (.inr rfl)
  | i + 1, none :: st => below_cons (below_keepR i st) (.inl rfl)
  | i + 1, some (.val d) :: st => below_cons (below_keepR i st) (.inl rfl)
  | i + 1, some (.own d) :: st => below_cons (below_keepR i st) (.inl rfl)
  | i + 1, some (.bor d) :: st => below_cons (below_keepR i st) (.inr rfl)
  | i + 1, some (.slf c ns ds) :: st => below_cons (below_keepR i st) (.inr rfl)
  | i + 1, some (.exc x) :: st => below_cons (below_keepR i st) (.inl rfl)
theorem keepR_at : ∀ (i : Nat) (st : DSt), (keepR i st)[i]? = st[i]?
  | _, [] => by unfold keepR; rfl
  | 0, x :: st => rfl
  | i + 1, none :: st => by simpa [keepR] using keepR_at i st
  | i + 1, some (.val d) :: st => by simpa [keepR] using keepR_at i st
  | i + 1, some (.own d) :: st => by simpa [keepR] using keepR_at i st
  | i + 1, some (.bor d) :: st => by simpa [keepR] using keepR_at i st
  | i + 1, some (.slf c ns ds) :: st => by simpa [keepR] using keepR_at i st
  | i + 1, some (.exc x) :: st => by simpa [keepR] using keepR_at i st
section
variable {K : PySem.W.Frag} {W : WX} {E : Ent} {B F H : Hp} {st st' : DSt} {σ : L2.St} {X : Cx} {ss : List Stmt} {s : Stmt} {f : DS}
theorem SR.below (h : SR K E F H st σ) (b : Below st' st) : SR K E F H st' σ := by
  have g : ∀ {i : Nat} {xs : List D}, (st'[i]? = some (some (.own xs)) ∨ st'[i]? = some (some (.bor xs))) → (st[i]? = some (some (.own xs)) ∨ st[i]? = some (some (.bor xs))) := fun z => z.imp (b.at_ _ _) (b.at_ _ _)
  exact ⟨b.len.trans h.len, h.ex, fun i d e => h.val i d (b.at_ _ _ e), fun i xs e => h.own i xs (b.at_ _ _ e), fun i xs e => h.bor i xs (b.at_ _ _ e), fun i j xs ys p e1 e2 => h.sep i j xs ys p (g e1) (g e2), h.fF, h.fE, h.fH, h.fB, fun i c ns ds e => h.slf i c ns ds (b.at_ _ _ e), fun i x e => h.exc i x (b.at_ _ _ e)⟩
theorem OwnAt.below {p : Addr} (h : OwnAt st' σ p) (b : Below st' st) : OwnAt st σ p := by
  obtain ⟨i, xs, e, q⟩ := h
  exact ⟨i, xs, e.imp (b.at_ _ _) (b.at_ _ _), q⟩
theorem RR.wiped {r : R} {v : V} (h : RR K E B F H st σ r v) : RR K E B F H (wipeR r st) σ r v := by
  cases r with
  | val d => exact h
  | «at» i =>
    obtain ⟨h1, s, h2⟩ := h
    refine ⟨h1, s, ?_⟩
    show (keepR i st)[i]? = _
    rw [keepR_at]; exact h2
  | tmp xs =>
    obtain ⟨q, vs, e1, e2, e3, e4, e5, e6, e7⟩ := h
    exact ⟨q, vs, e1, e2, e3, e4, fun z => e5 (z.below (below_keepB st)), e6, e7⟩
theorem below_wipeR (r : R) (st : DSt) : Below (wipeR r st) st := by
  cases r with
  | val d => exact below_keepB st
  | «at» i => exact below_keepR i st
  | tmp xs => exact below_keepB st
theorem ContS.wiped {ws : List Nat} {D : Ends} {st : DSt} (h : ContS K W E F (dW ws f st) D) : ContS K W E F (f st) D := by
  unfold dW at h
  cases e : f st with
  | nx s =>
    rw [e] at h
    exact fun σ' F' H' sr z => h σ' F' H' (sr.below (below_wipe ws s)) z
  | ct s =>
    rw [e] at h
    exact fun σ' F' H' sr z => h σ' F' H' (sr.below (below_wipe ws s)) z
  | bk s =>
    rw [e] at h
    exact fun σ' F' H' sr z => h σ' F' H' (sr.below (below_wipe ws s)) z
  | rt r s =>
    rw [e] at h
    exact fun v σ' F' H' sr z rr => h v σ' F' H' (sr.below (below_wipeR r s)) z rr.wiped
  | exc x s =>
    rw [e] at h
    exact fun c d σ' F' H' sr z xr => h c d σ' F' H' (sr.below (below_keepB s)) z xr
  | bad =>
    rw [e] at h
    exact h
theorem ContS.wipedt {ws : List Nat} {D : Ends} {st : DSt} (h : ContS K W E F (dWt ws f st) D) : ContS K W E F (f st) D := by
  unfold dWt at h
  cases e : f st with
  | nx s =>
    rw [e] at h
    exact fun σ' F' H' sr z => h σ' F' H' (sr.below (below_wipe ws s)) z
  | ct s =>
    rw [e] at h
    exact fun σ' F' H' sr z => h σ' F' H' (sr.below (below_wipe ws s)) z
  | bk s =>
    rw [e] at h
    exact fun σ' F' H' sr z => h σ' F' H' (sr.below (below_wipe ws s)) z
  | rt r s =>
    rw [e] at h
    exact fun v σ' F' H' sr z rr => h v σ' F' H' (sr.below (below_wipeR r s)) z rr.wiped
  | exc x s =>
    rw [e] at h
    exact h
  | bad =>
    rw [e] at h
    exact h
theorem ds_w (ws : List Nat) (h : DSj X W s f) : DSj X W s (dW ws f) := ⟨ps_imp h.ps fun D σ H ⟨E, F, st, sr, q⟩ => ⟨E, F, st, sr, q.wiped⟩⟩
theorem dss_w (ws : List Nat) (h : DSs X W ss f) : DSs X W ss (dW ws f) := ⟨pss_imp h.ps fun D σ H ⟨E, F, st, sr, q⟩ => ⟨E, F, st, sr, q.wiped⟩⟩
theorem ds_wt (ws : List Nat) (h : DSj X W s f) : DSj X W s (dWt ws f) := ⟨ps_imp h.ps fun D σ H ⟨E, F, st, sr, q⟩ => ⟨E, F, st, sr, q.wipedt⟩⟩
theorem dss_wt (ws : List Nat) (h : DSs X W ss f) : DSs X W ss (dWt ws f) := ⟨pss_imp h.ps fun D σ H ⟨E, F, st, sr, q⟩ => ⟨E, F, st, sr, q.wipedt⟩⟩
end
end Dl

namespace Dl
open PySem L2 PySem.Spec PyProof.Rows
variable [ExI]
/-! ### o(..) by __call__ -/
def fnB (c m : Str) : Ex := fun K => PySem.W.fnIn K (He.ma K (He.ga K c) m)
def tCallOA (X : Cx) (C : Addr) (sp : Sp) (E : L2.St → XK) (tf : TE) (t : TA) : TE := fun σ H Q => tf σ H fun y H1 => ∃ a, y = V.ref a ∧ t σ H1 fun vs H2 => StX.InsC X H2 a C ∧ sp (V.ref a :: vs) H2 Q (E σ)
section
variable {X : Cx} {W : WX} {CX : CXT} {k : Nat} {C g : Addr} {sp : Sp} {E : L2.St → XK} {o fe e : Expr} {es : List Expr} {tf : TE} {t : TA} {pos : Pos} {c m : Str} {f : FnD} {fo : DX} {ga : DA}
theorem pe_callOA (hf : PE X fe tf) (c : StX.CallO X.K C g) (F : FnR X.prog X.w X.K X.mg X.base CX k g sp) (hr : Room k X.A) (hx : ∀ σ, PassesAt CX X σ (E σ)) (ha : PA X (e :: es) t)
    (ht : eval (.Call fe (e :: es) [] pos) X.env = (do callWith pos (← eval fe X.env) [] (backTo pos (starEach (e :: es) X.env)) (backToKw pos (keywordEach [] X.env))) := by rfl)
    (he : starEach (e :: es) X.env = (false, eval e X.env) :: starEach es X.env := by rfl) (hpl : (backTo pos (starEach es X.env)).any (·.1) = false := by rfl) : PE X (.Call fe (e :: es) [] pos) (tCallOA X C sp E tf t) := by
  refine ⟨fun pins s σ H Q I h => ?_⟩
  refine Call_ (thn (hf.run pins s σ H _ I h) fun u s1 ⟨y, H1, I1, ry, a, ey, q⟩ => ?_) ht
  subst ey
  obtain rfl : u = Value.ref a := ry
  refine StX.callO_with (thn (ha.run pos pins s1 σ H1 _ I1 q) fun us s2 ⟨vs, H2, I2, r, hi, q2⟩ => ?_) he hpl
  obtain ⟨ox, od, J, hd⟩ := StX.insC_at I2 hi
  exact ⟨⟨C, ox, od, J, hd⟩, wpAny_call (PySem.W.kco_code I2.kIn J hd c.at_ c.fn c.fi (run_fnRA (us := .ref a :: us) (vs := .ref a :: vs) F hr (hx σ) I2 (.cons rfl r) q2))⟩
def dCallO (c : Str) (f : FnD) (fo : DX) (g : DA) : DX := bnd fo fun r st => match objOf c r st with
  | some _ => bnd g (fun rs st2 => match objOf c r st2 with
    | some _ => callY f (r :: rs) st2
    | none => .bad) st
  | none => .bad
theorem de_callO (he : DE X W fe fo) (hm : Meth X.K (He.ga X.K c) "__call__" (He.ma X.K (He.ga X.K c) "__call__")) (hi : fnB c "__call__" X.K = true) (G : FnY X.prog X.w X.K X.mg X.base k (He.ma X.K (He.ga X.K c) "__call__") f) (hr : Room k X.A) (tk : Takes X W) (ha : DAs X W (e :: es) ga)
    (ht : eval (.Call fe (e :: es) [] pos) X.env = (do callWith pos (← eval fe X.env) [] (backTo pos (starEach (e :: es) X.env)) (backToKw pos (keywordEach [] X.env))) := by rfl)
    (hst : starEach (e :: es) X.env = (false, eval e X.env) :: starEach es X.env := by rfl) (hpl : (backTo pos (starEach es X.env)).any (·.1) = false := by rfl) : DE X W (.Call fe (e :: es) [] pos) (dCallO c f fo ga) := by
  refine ⟨pe_imp (pe_callOA (E := fun σ c d H => W c d σ H) he.pe ⟨hm.at_, hm.fn, hi⟩ G hr (fun σ => passAt tk σ) ha.pa ht hst hpl) fun σ H Q q => ?_⟩
  obtain ⟨E, F, st, s, q⟩ := q
  refine Rd.first s q fun v F1 H1 st1 r s1 p1 h1 q1 => ?_
  cases e : objOf c r st1 with
  | none =>
    rw [e] at q1
    exact q1.elim
  | some z =>
    obtain ⟨ns, ds⟩ := z
    rw [e] at q1
    simp only at q1
    obtain ⟨a, dx, vs, rfl, k2, k3⟩ := objOf_ok s1 h1 e
    refine ⟨a, rfl, ?_⟩
    refine Rd.next s1 p1 q1 fun ws F2 H2 st2 rs s2 p2 p h2 q2 => ?_
    cases e2 : objOf c r st2 with
    | none =>
      rw [e2] at q2
      exact q2.elim
    | some z2 =>
      obtain ⟨ns2, ds2⟩ := z2
      rw [e2] at q2
      simp only at q2
      obtain ⟨a', dx', vs', ea, k2', k3'⟩ := objOf_ok s2 (h1.step p2) e2
      cases ea
      exact ⟨.inr ⟨dx', _, k2'⟩, p_callY s2 p ⟨Paired.cons (h1.step p2) (paired_base p1.live h2.1), tsep_cons h1 h2⟩ q2⟩
/-! ### cls.NAME, a constant of the class -/
def cvM (r : Option PySem.W.CFound) (v : He.Dv) : Bool := match r, v with
  | some (.val (.int i _)), .int j => decide (i = j)
  | some (.val (.str x _)), .str y => decide (x = y)
  | _, _ => false
theorem cvM_ok {K : PySem.W.Frag} {r : Option PySem.W.CFound} {v : He.Dv} (h : cvM r v = true) : ∃ u, r = some (.val u) ∧ RelV (v.v K) u := by
  unfold cvM at h
  split at h
  · have e2 := of_decide_eq_true h
    subst e2
    exact ⟨_, rfl, ⟨_, rfl⟩⟩
  · have e2 := of_decide_eq_true h
    subst e2
    exact ⟨_, rfl, ⟨_, rfl⟩⟩
  · cases h
def cvB (c f : Str) (v : He.Dv) : Ex := fun K => PySem.W.readsIn K (He.ga K c) (.type "type") && (He.eqO (PySem.W.specialIn K (.ref (He.ga K c)) "__getattribute__") (some (some (.builtin "type.__getattribute__"))) && cvM (PySem.W.findCls K (.ref (He.ga K c)) (.type "type") f) v)
theorem cvB_ok {c f : Str} {v : He.Dv} {K : PySem.W.Frag} (h : cvB c f v K = true) : ClX.CRead K (He.ga K c) (.type "type") ∧ ∃ u, ClX.CVal K (He.ga K c) (.type "type") f (v.v K) u := by
  obtain ⟨h1, h⟩ := He.ba h
  obtain ⟨h2, h⟩ := He.ba h
  obtain ⟨u, e, r⟩ := cvM_ok (K := K) h
  exact ⟨⟨h1, He.eqO_ok h2⟩, u, e, r⟩
def dCCon (c : Str) (d : D) (fo : DX) : DX := bnd fo fun r st => match look st r with
  | some (.gl x) => if x = c then .ok (.val d) st else .bad
  | _ => .bad
theorem de_ccon {f : Str} {v : He.Dv} {d : D} (he : DE X W o fo) (hn : cvB c f v X.K = true) (hv : ∀ F, Rep X.K F d (v.v X.K)) (hb : attributeBase o f X.env (eval o X.env) = eval o X.env := by rfl) : DE X W (.Attribute o f pos) (dCCon c d fo) := by
  refine ⟨pe_imp (ClX.pe_cval he.pe hb) fun σ H Q ⟨E, F, st, s, q⟩ => ?_⟩
  refine Rd.first s q fun v' F1 H1 st1 r s1 p1 h1 q1 => ?_
  cases e : look st1 r with
  | none =>
    rw [e] at q1
    exact q1.elim
  | some d1 =>
    rw [e] at q1
    cases d1 with
    | gl x =>
      simp only at q1
      by_cases hx : x = c
      case neg =>
        rw [if_neg hx] at q1
        exact q1.elim
      rw [if_pos hx] at q1
      subst hx
      have rv := notlst_val s1 h1 e (fun _ z => nomatch z)
      simp only [Rep] at rv
      obtain ⟨rd, u, cv⟩ := cvB_ok hn
      exact ⟨_, _, _, u, rv, rd, cv, q1 _ F1 H1 s1 p1 (hv F1)⟩
    | _ => exact q1.elim
/-! ### xs.insert(i, x), xs.reverse() -/
def insOp (k : Nat) (r1 r2 : R) : DSt → Out R := fun st => match look st r1 with
  | some (.int i) => (match frz1 r2 st with
    | some (d, st1) => (match getC st1 k with
      | some xs => if xs.length < lim ∧ 0 ≤ i ∧ smallI i = true then .ok (.val .non) (setC st1 k (xs.take i.toNat ++ [d] ++ xs.drop i.toNat)) else .bad
      | none => .bad)
    | none => .bad)
  | _ => .bad
def dIns (k : Nat) (fa fb : DX) : DX := fun st => match getC st k with
  | some _ => bnd fa (fun r1 => bnd fb fun r2 => insOp k r1 r2) st
  | none => .bad
variable {a b : Expr} {fa fb : DX}
theorem de_ins {k : Nat} {o : Expr} {apos : Pos} (ho : PE X o (tVar k)) (ha : DE X W a fa) (hb : DE X W b fb) (hbase : attributeBase o "insert" X.env (eval o X.env) = eval o X.env := by rfl)
    (hfew : ((backTo pos (starEach [a, b] X.env)).all (fun x => !x.1) && (backToKw pos (keywordEach [] X.env)).all (fun x => x.1.isSome)
      && decide ([a, b].length + ([] : List Keyword).length + (if ([] : List Keyword).isEmpty then 0 else 1) < 30)) = true := by rfl)
    (hline : (apos.endLine == pos.line) = true := by rfl) (hs : starEach [a, b] X.env = (false, eval a X.env) :: starEach [b] X.env := by rfl) (hs2 : starEach [b] X.env = (false, eval b X.env) :: starEach [] X.env := by rfl) (hpl : (backTo pos (starEach [b] X.env)).any (·.1) = false := by rfl) : DE X W (.Call (.Attribute o "insert" apos) [a, b] [] pos) (dIns k fa fb) := by
  refine ⟨pe_imp (pe_bm PySem.F.plainAttrs_list PySem.F.slot_list_insert PySem.F.type_list_insert mt_insert ho (pa_cons ha.pe (pa_cons hb.pe pa_nil hs2) hs) hbase hfew hline hs hpl) fun σ H Q ⟨E, F, st, s, q⟩ => ?_⟩
  unfold dIns at q
  split at q
  · rename_i xs0 e0
    obtain ⟨p, vs, q1, q2, q3, q4, q5, _⟩ := s.mut e0
    refine ⟨.ref p, q1, .inl ⟨rfl, vs, SqL.of q3⟩, Rd.first s q fun v F1 H1 st1 r1 s1 p1 h1 c1 => ?_⟩
    refine Rd.next s1 p1 c1 fun w F2 H2 st2 r2 s2 p2 pp h2 c2 => ?_
    unfold insOp at c2
    split at c2
    · rename_i i e1
      split at c2
      · rename_i d st3 e2
        split at c2
        · rename_i xs e3
          split at c2
          · rename_i hz
            obtain ⟨F3, f3, r3⟩ := frz1_ok s2 (h2.base p1.live) e2
            obtain ⟨p', ws, k1, k2, k3, k4, k5, k6⟩ := f3.sr.mut e3
            rw [q1] at k1
            cases k1
            obtain ⟨s3, p3⟩ := k6 (xs.take i.toNat ++ [d] ++ xs.drop i.toNat) (ws.take i.toNat ++ [w] ++ ws.drop i.toNat) (((k4.take _).append (RepL.one r3)).append (k4.drop _))
            obtain ⟨z1, z2⟩ := small_of hz.2.2
            exact ⟨p, ws, i, w, rfl, by rw [look_int s2 (h1.step p2) e1], k3, by rw [← k4.length]; exact lim_lt hz.1, hz.2.1, by omega, c2 .non F3 _ s3 ((f3.stp pp).trans p3) (by simp only [RR, Rep])⟩
          · exact c2.elim
        · exact c2.elim
      · exact c2.elim
    · exact c2.elim
  · exact q.elim
def dRev (k : Nat) : DX := fun st => match getC st k with
  | some xs => .ok (.val .non) (setC st k xs.reverse)
  | none => .bad
theorem de_rev {k : Nat} {o : Expr} {apos : Pos} (ho : PE X o (tVar k)) (hbase : attributeBase o "reverse" X.env (eval o X.env) = eval o X.env := by rfl) (hline : (apos.endLine == pos.line) = true := by rfl) :
    DE X W (.Call (.Attribute o "reverse" apos) [] [] pos) (dRev k) := by
  refine ⟨pe_imp (pe_bm0 PySem.F.plainAttrs_list PySem.F.slot_list_reverse PySem.F.type_list_reverse mt_reverse ho hbase hline) fun σ H Q ⟨E, F, st, s, q⟩ => ?_⟩
  unfold dRev at q
  split at q
  · rename_i xs e
    obtain ⟨p, vs, q1, q2, q3, q4, q5, k6⟩ := s.mut e
    obtain ⟨s3, p3⟩ := k6 xs.reverse vs.reverse q4.reverse
    exact ⟨.ref p, q1, .inl ⟨rfl, vs, SqL.of q3⟩, p, vs, rfl, rfl, q3, q .non F _ s3 p3 (by simp only [RR, Rep])⟩
  · exact q.elim
theorem de_conE {f : Str} {v : He.Dv} {d : D} (he : DE X W o fo) (hc : Cls X.K (He.ga X.K c)) (hn : He.conB X.K c f v = true) (hv : ∀ F, Rep X.K F d (v.v X.K)) (hcp : PySem.W.copiedNames.contains f = false := by decide) (hb : attributeBase o f X.env (eval o X.env) = eval o X.env := by rfl) : DE X W (.Attribute o f pos) (dCon c f d fo) := by
  obtain ⟨u, hu⟩ := He.conB_ok hn hcp
  exact de_con he hc hu hv hb
end
end Dl

namespace Dl
open PySem L2 PySem.Spec PyProof.Rows
variable [ExI]
/-! ### < and > of ints and of tuples of ints -/
theorem lexAt_drop (ns ms : List Int) : ∀ (k i : Nat), k = min ns.length ms.length - i → i ≤ min ns.length ms.length →
    Ob.lexAt (fun j => decide (ns.getD j 0 = ms.getD j 0)) (fun j => decide (ms.getD j 0 < ns.getD j 0)) (decide (ns.length > ms.length)) i k = HT.lexLt (ms.drop i) (ns.drop i)
  | 0, i, hk, hi => by
    rw [Ob.lexAt_zero]
    have he : i = min ns.length ms.length := by omega
    by_cases h : ms.length < ns.length
    · have e1 : ms.drop i = [] := List.drop_eq_nil_of_le (by omega)
      have l2 : i < ns.length := by omega
      rw [e1, List.drop_eq_getElem_cons l2]
      simp [HT.lexLt, h]
    · have e1 : ns.drop i = [] := List.drop_eq_nil_of_le (by omega)
      rw [e1]
      cases q : ms.drop i with
      | nil => simp [HT.lexLt]; omega
      | cons a l => simp [HT.lexLt]; omega
  | k + 1, i, hk, hi => by
    have l1 : i < ns.length := by omega
    have l2 : i < ms.length := by omega
    rw [Ob.lexAt_succ, lexAt_drop ns ms k (i + 1) (by omega) (by omega), List.drop_eq_getElem_cons l1, List.drop_eq_getElem_cons l2, HT.lexLt_cons]
    have g1 : ns.getD i 0 = ns[i] := by simp [l1]
    have g2 : ms.getD i 0 = ms[i] := by simp [l2]
    rw [g1, g2]
    by_cases e : ns[i] = ms[i]
    · simp [e]
    · have e' : ¬ ms[i] = ns[i] := fun z => e z.symm
      simp [e, e']
def rGtT (K : PySem.W.Frag) : R2 := fun x y H Q => ∃ a b ns ms, x = .ref a ∧ y = .ref b ∧ SqT K H a (ns.map V.int) ∧ SqT K H b (ms.map V.int) ∧ Q (.bl (HT.lexLt ms ns)) H
theorem op_gtT {X : Cx} (hu : X.A.units < cLine) : OpR X (compareOp .Gt) (rGtT X.K) := by
  intro pins s σ H x y v u Q I rx ry h
  obtain ⟨a, b, ns, ms, rfl, rfl, ha, hb, q⟩ := h
  cases rx
  cases ry
  obtain ⟨its, r1, p1, _⟩ := I.tuple ha
  obtain ⟨its2, r2, p2, _⟩ := I.tuple hb
  have i1 : IntsAre its ns := Vals.ints r1
  have i2 : IntsAre its2 ms := Vals.ints r2
  have e1 : its.toArray.size = ns.length := by rw [List.size_toArray]; exact i1.length
  have e2 : its2.toArray.size = ms.length := by rw [List.size_toArray]; exact i2.length
  have at1 : ∀ j (h1 : j < its.toArray.size), ∃ t, its.toArray[j] = .int (ns.getD j 0) t := fun j h1 => PyProof.Rows.IntsAre.int_at i1 _ _ (by simp at h1; simp [h1])
  have at2 : ∀ j (h1 : j < its2.toArray.size), ∃ t, its2.toArray[j] = .int (ms.getD j 0) t := fun j h1 => PyProof.Rows.IntsAre.int_at i2 _ _ (by simp at h1; simp [h1])
  have R := Ob.RcOp.tuples_gt (A := X.A) (s := s) (e := fun j => decide (ns.getD j 0 = ms.getD j 0)) (r := fun j => decide (ms.getD j 0 < ns.getD j 0)) p1 p2 hu (fun j h1 h2 => by
    obtain ⟨t, et⟩ := at1 j h1
    obtain ⟨t', et'⟩ := at2 j h2
    rw [et, et']
    have z : (ns.getD j 0 == ms.getD j 0) = decide (ns.getD j 0 = ms.getD j 0) := by
      by_cases q : ns.getD j 0 = ms.getD j 0
      · rw [decide_eq_true q]; exact beq_iff_eq.mpr q
      · rw [decide_eq_false q]; exact beq_eq_false_iff_ne.mpr q
    rw [← z]
    exact SeqAt.EqAt.int_int _ _ _ _) (fun j h1 h2 _ => by
    obtain ⟨t, et⟩ := at1 j h1
    obtain ⟨t', et'⟩ := at2 j h2
    rw [et, et']
    exact Ob.RcOp.gt_int _ _ _ _)
  rw [e1, e2, lexAt_drop ns ms _ 0 (by simp) (by simp)] at R
  exact R _ _ _ _ ⟨.bl (HT.lexLt ms ns), H, I, rfl, q⟩
def ltA : D → D → Option R
  | .int a, .int b => some (.val (.bl (decide (a < b))))
  | .tup xs, .tup ys => (match intsOf xs, intsOf ys with
    | some ns, some ms => some (.val (.bl (HT.lexLt ns ms)))
    | _, _ => none)
  | _, _ => none
def gtA : D → D → Option R := fun x y => ltA y x
def oLtA : O2 := by2 ltA
def oGtA : O2 := by2 gtA
section
variable {X : Cx} {W : WX}
theorem ltA_cases {d1 d2 : D} {res : R} (e : ltA d1 d2 = some res) : (∃ a b, d1 = .int a ∧ d2 = .int b ∧ res = .val (.bl (decide (a < b)))) ∨ ∃ xs ys ns ms, d1 = .tup xs ∧ d2 = .tup ys ∧ intsOf xs = some ns ∧ intsOf ys = some ms ∧ res = .val (.bl (HT.lexLt ns ms)) := by
  unfold ltA at e
  split at e
  · cases e
    exact .inl ⟨_, _, rfl, rfl, rfl⟩
  · split at e
    · rename_i ns ms h1 h2
      cases e
      exact .inr ⟨_, _, _, _, rfl, rfl, h1, h2, rfl⟩
    · cases e
  · cases e
theorem sqT_H {K : PySem.W.Frag} {E : Ent} {F H : Hp} {st : DSt} {σ : L2.St} (s : SR K E F H st σ) {a : Addr} {vs : List V} (h : SqT K F a vs) : SqT K H a vs := sqT_mono s.ex h
theorem c_ltA (hu : X.A.units + 64 < cLine) : CR2 X W .Lt oLtA := by
  refine ⟨_, op_lt.or (op_ltT (by omega)), p2_by fun E Fb Hb stb F H st σ r1 r2 v w Q d1 d2 res s p h1 h2 e1 e2 e c => ?_⟩
  rcases ltA_cases e with ⟨a, b, rfl, rfl, rfl⟩ | ⟨xs, ys, ns, ms, rfl, rfl, q1, q2, rfl⟩
  · exact .inl ⟨a, b, look_int s h1 e1, look_int s h2 e2, c _ F H s p (by simp only [RR, Rep])⟩
  · obtain ⟨a, us, ea, ka, ra⟩ := look_tup s h1 e1
    obtain ⟨b, ws, eb, kb, rb⟩ := look_tup s h2 e2
    rw [intsOf_ok ra q1] at ka
    rw [intsOf_ok rb q2] at kb
    exact .inr ⟨a, b, ns, ms, ea, eb, sqT_H s ka, sqT_H s kb, c _ F H s p (by simp only [RR, Rep])⟩
theorem c_gtA (hu : X.A.units + 64 < cLine) : CR2 X W .Gt oGtA := by
  refine ⟨_, op_gt.or (op_gtT (by omega)), p2_by fun E Fb Hb stb F H st σ r1 r2 v w Q d1 d2 res s p h1 h2 e1 e2 e c => ?_⟩
  rcases ltA_cases e with ⟨a, b, rfl, rfl, rfl⟩ | ⟨xs, ys, ns, ms, rfl, rfl, q1, q2, rfl⟩
  · exact .inl ⟨b, a, look_int s h1 e1, look_int s h2 e2, c _ F H s p (by simp only [RR, Rep])⟩
  · obtain ⟨a, us, ea, ka, ra⟩ := look_tup s h1 e1
    obtain ⟨b, ws, eb, kb, rb⟩ := look_tup s h2 e2
    rw [intsOf_ok ra q2] at ka
    rw [intsOf_ok rb q1] at kb
    exact .inr ⟨a, b, ms, ns, ea, eb, sqT_H s ka, sqT_H s kb, c _ F H s p (by simp only [RR, Rep])⟩
end
end Dl

namespace Dl
open PySem L2 PySem.Spec PyProof.Rows
variable [ExI]
/-! ### lists that are not changed any more -/
def fz1 (i : Nat) (st : DSt) : DSt := match st[i]? with
  | some (some (.own xs)) => st.set i (some (.val (.lst xs)))
  | _ => st
def fzL : List Nat → DSt → DSt
  | [], st => st
  | i :: ks, st => fzL ks (fz1 i st)
def dFz (ks : List Nat) (f : DS) : DS := fun st => match f st with
  | .nx s => .nx (fzL ks s)
  | o => o
section
variable {K : PySem.W.Frag} {W : WX} {E : Ent} {F H : Hp} {st : DSt} {σ : L2.St} {X : Cx} {s : Stmt} {f : DS}
theorem SR.fz1 (i : Nat) (h : SR K E F H st σ) : ∃ F', SR K E F' H (fz1 i st) σ ∧ Same F F' := by
  unfold Dl.fz1
  split
  · rename_i xs e
    obtain ⟨p, vs, q1, q2, q3, q4, q5⟩ := h.own i xs e
    have e2 : frz1 (.at i) st = some (.lst xs, st.set i (some (.val (.lst xs)))) := by simp only [frz1, e]
    obtain ⟨F', fr, r⟩ := frz1_ok (B := fun _ => none) h (r := .at i) (v := .ref p) ⟨q1, _, e⟩ e2
    exact ⟨F', fr.sr, fr.ex⟩
  · exact ⟨F, h, Same.refl F⟩
theorem SR.fzL : ∀ (ks : List Nat) {F : Hp} {st : DSt}, SR K E F H st σ → ∃ F', SR K E F' H (fzL ks st) σ ∧ Same F F'
  | [], F, st, h => ⟨F, h, Same.refl F⟩
  | i :: ks, F, st, h => by
    obtain ⟨F1, h1, e1⟩ := h.fz1 i
    obtain ⟨F2, h2, e2⟩ := SR.fzL ks h1
    exact ⟨F2, h2, e1.trans e2⟩
theorem ds_fz (ks : List Nat) (h : DSj X W s f) : DSj X W s (dFz ks f) := by
  refine ⟨ps_imp h.ps fun D σ H ⟨E, F, st, sr, q⟩ => ⟨E, F, st, sr, ?_⟩⟩
  unfold dFz at q
  cases e : f st with
  | nx s1 =>
    rw [e] at q
    intro σ' F' H' s' e'
    obtain ⟨F2, s2, e2⟩ := SR.fzL ks s'
    exact q σ' F2 H' s2 (e'.trans e2)
  | bk s1 =>
    rw [e] at q
    exact q
  | ct s1 =>
    rw [e] at q
    exact q
  | rt r s1 =>
    rw [e] at q
    exact q
  | exc x s1 =>
    rw [e] at q
    exact q
  | bad =>
    rw [e] at q
    exact q
end
end Dl

namespace Dl
open PySem L2 PySem.Spec PyProof.Rows
variable [ExI]
/-! ### a list lent to a method -/
def callYB (b : Nat) (f : FnD) : ON := fun rs st => match rs[b]? with
  | some (.at _) => callOp rs.length f [] (some b) rs st
  | _ => callY f rs st
section
variable {K : PySem.W.Frag} {W : WX} {E : Ent} {Fb Hb F H : Hp} {stb st : DSt} {σ : L2.St} {Q : VK}
theorem p_callYB {b : Nat} {f : FnD} {rs : List R} {vs : List V} (s : SR K E F H st σ) (p : Stp Fb Hb stb σ F H st) (h : relA K E Hb F H st σ rs vs) (c : Cont K W (RR K) E Fb Hb stb σ (callYB b f rs st) Q) : spR K f vs H Q (fun c d H' => W c d σ H') := by
  unfold callYB at c
  split at c
  · obtain ⟨F1, args, h1, _, h2, h3, h4⟩ := p_call (dvs := []) (fun _ => RepL.nil) E Fb Hb stb F H st σ rs vs Q s p h c
    rw [List.append_nil] at h2 h3 h4
    exact ⟨F1, args, h1, h2, h3, h4⟩
  · exact p_callY s p h c
end
section
variable {X : Cx} {W : WX} {k : Nat} {g : Addr} {m : Str} {o e : Expr} {es : List Expr} {apos pos : Pos} {pl : Sem Bool}
def dMethB (b : Nat) (c m : Str) (f : FnD) (fo : DX) (g : DA) : DX := bnd fo fun r st => match objOf c r st with
  | some (ns, _) => if ns.contains m then .bad else bnd g (fun rs => callYB b f (r :: rs)) st
  | none => .bad
theorem de_methB {b : Nat} {c : Str} {f : FnD} {fo : DX} {g' : DA} (he : DE X W o fo) (hc : Cls X.K (He.ga X.K c)) (hm : Meth X.K (He.ga X.K c) m g) (G : FnY X.prog X.w X.K X.mg X.base k g f) (hr : Room k X.A) (tk : Takes X W) (ha : DAs X W (e :: es) g')
    (hst : starEach (e :: es) X.env = (false, eval e X.env) :: starEach es X.env := by rfl) (hpl : (backTo pos (starEach es X.env)).any (·.1) = false := by rfl)
    (ht : eval (.Call (.Attribute o m apos) (e :: es) [] pos) X.env = (do
      let ov ← eval o X.env
      standAt apos.atName
      let (f, first) ← holding [ov] (getMethod ov m pl)
      callWith pos f first (backTo pos (starEach (e :: es) X.env)) (backToKw pos (keywordEach [] X.env))) := by rfl) : DE X W (.Call (.Attribute o m apos) (e :: es) [] pos) (dMethB b c m f fo g') := by
  refine ⟨pe_imp (pe_methA (E := fun σ c d H => W c d σ H) he.pe hc hm G hr (fun σ => passAt tk σ) ha.pa hst hpl ht) fun σ H Q q => ?_⟩
  obtain ⟨E, F, st, s, q⟩ := q
  refine Rd.first s q fun v F1 H1 st1 r s1 p1 h1 q1 => ?_
  cases e : objOf c r st1 with
  | none =>
    rw [e] at q1
    exact q1.elim
  | some z =>
    obtain ⟨ns, ds⟩ := z
    rw [e] at q1
    simp only at q1
    cases e2 : ns.contains m with
    | true =>
      rw [e2] at q1
      exact q1.elim
    | false =>
      rw [e2] at q1
      simp only [Bool.false_eq_true, if_false] at q1
      obtain ⟨a, dx, vs, rfl, k2, k3⟩ := objOf_ok s1 h1 e
      refine ⟨a, dx, _, rfl, k2, lookup_no e2, ?_⟩
      refine Rd.next s1 p1 q1 fun ws F2 H2 st2 rs s2 p2 p h2 q2 => ?_
      exact p_callYB s2 p ⟨Paired.cons (h1.step p2) (paired_base p1.live h2.1), tsep_cons h1 h2⟩ q2
def dCMethB (b : Nat) (c : Str) (f : FnD) (fo : DX) (g : DA) : DX := bnd fo fun r st => match r with
  | .val (.gl x) => if x = c then bnd g (fun rs => callYB b f (r :: rs)) st else .bad
  | _ => .bad
theorem de_cmethB {b : Nat} {c : Str} {f : FnD} {fo : DX} {g' : DA} (he : DE X W o fo) (hc : cmB c m X.K = true) (G : FnY X.prog X.w X.K X.mg X.base k (He5.wf X.K (He.ga X.K c) "classmethod" m) f) (hr : Room k X.A) (tk : Takes X W) (ha : DAs X W (e :: es) g')
    (hst : starEach (e :: es) X.env = (false, eval e X.env) :: starEach es X.env := by rfl) (hpl : (backTo pos (starEach es X.env)).any (·.1) = false := by rfl)
    (ht : eval (.Call (.Attribute o m apos) (e :: es) [] pos) X.env = (do
      let ov ← eval o X.env
      standAt apos.atName
      let (f, first) ← holding [ov] (getMethod ov m pl)
      callWith pos f first (backTo pos (starEach (e :: es) X.env)) (backToKw pos (keywordEach [] X.env))) := by rfl) : DE X W (.Call (.Attribute o m apos) (e :: es) [] pos) (dCMethB b c f fo g') := by
  obtain ⟨h1, h2⟩ := cmB_ok hc
  refine ⟨pe_imp (pe_cmethA (E := fun σ c d H => W c d σ H) he.pe h1 h2 G hr (fun σ => passAt tk σ) ha.pa hst hpl ht) fun σ H Q ⟨E, F, st, s, q⟩ => ?_⟩
  refine Rd.first s q fun v F1 H1 st1 r s1 p1 k1 q1 => ?_
  split at q1
  · rename_i x
    by_cases z : x = c
    · rw [if_pos z] at q1
      have ev : v = .ref (He.ga X.K x) := by simpa only [RR, Rep] using k1
      subst z
      refine ⟨ev, Rd.next s1 p1 q1 fun ws F2 H2 st2 rs s2 p2 p k2 q2 => ?_⟩
      rw [← ev]
      exact p_callYB s2 p ⟨Paired.cons (k1.step p2) (paired_base p1.live k2.1), tsep_cons k1 k2⟩ q2
    · rw [if_neg z] at q1
      exact q1.elim
  · exact q1.elim
def callOpB (n : Nat) (f : FnD) (dds : List D) (b : Nat) : ON := fun rs st => match rs[b]? with
  | some (.at _) => callOp n f dds (some b) rs st
  | _ => callOp n f dds none rs st
def dCallB (n : Nat) (f : FnD) (dds : List D) (b : Nat) (g : DA) : DX := bnd g (callOpB n f dds b)
theorem de_callXB {fD : FnD} {dds : List D} (b : Nat) {k : Nat} {f : Addr} {ps : List Str} {x : Str} {e : Expr} {es : List Expr} {g : DA} {p : Pos}
    (G : FnX X.prog X.w X.K X.mg X.base k f ps dds fD) (hr : Room k X.A) (tk : Takes X W) (hg : Gl X x) (hm : X.mg x = some (.ref f)) (ha : DAs X W (e :: es) g)
    (hdb : (x == ("__debug__" : Str)) = false := by decide) (he : starEach (e :: es) X.env = (false, eval e X.env) :: starEach es X.env := by rfl) (hpl : (backTo pos (starEach es X.env)).any (·.1) = false := by rfl) {n : Nat} (hn : n = ps.length := by rfl) :
    DE X W (.Call (.Name x p) (e :: es) [] pos) (dCallB n fD dds b g) := by
  subst hn
  obtain ⟨fd, ds, dvs, h1, h2, h3, h4, h5⟩ := G
  refine ⟨pe_imp (pe_callSD (E := fun σ c d H => W c d σ H) h1 hr hg hm h5 h2 h3 (fun σ => passAt tk σ) ha.pa hdb he hpl) fun σ H Q ⟨E, F, st, s, q⟩ => ?_⟩
  refine Rd.first s q fun vs F1 H1 st1 rs s1 p1 k1 q1 => ?_
  unfold callOpB at q1
  split at q1
  · exact p_call h4 E F H st F1 H1 st1 σ rs vs Q s1 p1 k1 q1
  · exact p_call h4 E F H st F1 H1 st1 σ rs vs Q s1 p1 k1 q1
end
end Dl

namespace Dl
open PySem L2 PySem.Spec PyProof.Rows
/-! ### try .. except C as e -/
def exFree : DSt → Bool
  | [] => true
  | some (.exc _) :: _ => false
  | _ :: st => exFree st
theorem exFree_ok : ∀ {st : DSt} {i : Nat} {x : Exn}, exFree st = true → st[i]? = some (some (.exc x)) → False
  | [], i, x, _, h => by simp at h
  | none :: st, 0, x, _, h => by simp at h
  | some (.val _) :: st, 0, x, _, h => by simp at h
  | some (.own _) :: st, 0, x, _, h => by simp at h
  | some (.bor _) :: st, 0, x, _, h => by simp at h
  | some (.slf _ _ _) :: st, 0, x, _, h => by simp at h
  | some (.exc _) :: st, i, x, f, h => by simp [exFree] at f
  | none :: st, i + 1, x, f, h => exFree_ok (st := st) (by simpa [exFree] using f) (by simpa using h)
  | some (.val _) :: st, i + 1, x, f, h => exFree_ok (st := st) (by simpa [exFree] using f) (by simpa using h)
  | some (.own _) :: st, i + 1, x, f, h => exFree_ok (st := st) (by simpa [exFree] using f) (by simpa using h)
  | some (.bor _) :: st, i + 1, x, f, h => exFree_ok (st := st) (by simpa [exFree] using f) (by simpa using h)
  | some (.slf _ _ _) :: st, i + 1, x, f, h => exFree_ok (st := st) (by simpa [exFree] using f) (by simpa using h)
/-- a caught exception's slot is emptied -/
def outE (i : Nat) : Fl → Fl
  | .nx s => if exFree (s.set i none) then .nx (s.set i none) else .bad
  | .bk s => if exFree (s.set i none) then .bk (s.set i none) else .bad
  | .ct s => if exFree (s.set i none) then .ct (s.set i none) else .bad
  | .rt (.at j) s => (match (s.set i none)[j]? with
    | some (some _) => if exFree (s.set i none) then .rt (.at j) (s.set i none) else .bad
    | _ => .bad)
  | .rt r s => if exFree (s.set i none) then .rt r (s.set i none) else .bad
  | _ => .bad
def dTry (tb : List (Str × Bool)) (i : Nat) (fb fs : DS) : DS := fun st => match fb st with
  | .exc x st1 => (match tb.lookup x.cls with
    | some true => if exFree st1 && decide (i < st1.length) then outE i (fs (st1.set i (some (.exc x)))) else .bad
    | some false => .exc x st1
    | none => .bad)
  | o => o
theorem SR.toEx [I0 : ExI] {K : PySem.W.Frag} {E : Ent} {F H : Hp} {st : DSt} {σ : L2.St} {i : Nat} {x : Exn} {a : Addr} {cls : Value} {d : Option Addr} (s : SR K E F H st σ) (hf : exFree st = true) (hi : i < st.length) (xr : XR K F x cls d) (ha : H a = none) :
    @SR ⟨some (a, cls, d)⟩ K E F H (st.set i (some (.exc x))) (σ.set i (some (.ref a))) := by
  have hl := s.len
  have back : ∀ {j : Nat}, j ≠ i → (σ.set i (some (V.ref a)))[j]? = σ[j]? := fun {j} n => List.getElem?_set_ne fun z => n z.symm
  have f : ∀ {j : Nat} {z : S}, (st.set i (some (.exc x)))[j]? = some (some z) → (j = i ∧ z = .exc x) ∨ (j ≠ i ∧ st[j]? = some (some z)) := fun {j z} h => by
    rcases get_set h with ⟨e, y⟩ | ⟨n, y⟩
    · exact .inl ⟨e, Option.some.inj y⟩
    · exact .inr ⟨n, y⟩
  have ow : ∀ {j : Nat} {xs : List D}, ((st.set i (some (.exc x)))[j]? = some (some (.own xs)) ∨ (st.set i (some (.exc x)))[j]? = some (some (.bor xs))) → j ≠ i ∧ (st[j]? = some (some (.own xs)) ∨ st[j]? = some (some (.bor xs))) := fun {j xs} h => by
    rcases h with h | h
    · rcases f h with ⟨_, z⟩ | ⟨n, z⟩
      · cases z
      · exact ⟨n, .inl z⟩
    · rcases f h with ⟨_, z⟩ | ⟨n, z⟩
      · cases z
      · exact ⟨n, .inr z⟩
  refine @SR.mk ⟨some (a, cls, d)⟩ _ _ _ _ _ _ (by rw [List.length_set, List.length_set]; exact hl) s.ex (fun j d' h => ?_) (fun j xs h => ?_) (fun j xs h => ?_) (fun j k xs ys p h1 h2 h3 h4 => ?_) s.fF s.fE s.fH s.fB (fun j c ns ds h => ?_) (fun j y h => ?_)
  · rcases f h with ⟨_, z⟩ | ⟨n, z⟩
    · cases z
    · obtain ⟨w, k1, k2⟩ := s.val j d' z
      exact ⟨w, by rw [back n]; exact k1, k2⟩
  · obtain ⟨n, _⟩ := ow (.inl h)
    rcases f h with ⟨_, z⟩ | ⟨_, z⟩
    · cases z
    · obtain ⟨p, vs, k1, k2⟩ := s.own j xs z
      exact ⟨p, vs, by rw [back n]; exact k1, k2⟩
  · obtain ⟨n, _⟩ := ow (.inr h)
    rcases f h with ⟨_, z⟩ | ⟨_, z⟩
    · cases z
    · obtain ⟨p, vs, k1, k2⟩ := s.bor j xs z
      exact ⟨p, vs, by rw [back n]; exact k1, k2⟩
  · obtain ⟨n1, q1⟩ := ow h1
    obtain ⟨n2, q2⟩ := ow h2
    rw [back n1] at h3
    rw [back n2] at h4
    exact s.sep j k xs ys p q1 q2 h3 h4
  · rcases f h with ⟨_, z⟩ | ⟨n, z⟩
    · cases z
    · obtain ⟨p, dx, vs, k1, k2⟩ := s.slf j c ns ds z
      exact ⟨p, dx, vs, by rw [back n]; exact k1, k2⟩
  · rcases f h with ⟨e, z⟩ | ⟨n, z⟩
    · cases z
      subst e
      exact ⟨a, cls, d, rfl, List.getElem?_set_self (by omega), xr⟩
    · exact (exFree_ok hf z).elim
theorem SR.ofEx [I0 : ExI] {I1 : ExI} {K : PySem.W.Frag} {E : Ent} {F H : Hp} {st : DSt} {σ σ' : L2.St} {i : Nat} (s : @SR I1 K E F H st σ) (hf : exFree (st.set i none) = true) (hs : ∀ j, j ≠ i → σ'[j]? = σ[j]?) (hl : σ'.length = σ.length) : @SR I0 K E F H (st.set i none) σ' := by
  have f : ∀ {j : Nat} {z : S}, (st.set i none)[j]? = some (some z) → j ≠ i ∧ st[j]? = some (some z) := fun {j z} h => by
    rcases get_set h with ⟨_, y⟩ | ⟨n, y⟩
    · cases y
    · exact ⟨n, y⟩
  have ow : ∀ {j : Nat} {xs : List D}, ((st.set i none)[j]? = some (some (.own xs)) ∨ (st.set i none)[j]? = some (some (.bor xs))) → j ≠ i ∧ (st[j]? = some (some (.own xs)) ∨ st[j]? = some (some (.bor xs))) := fun {j xs} h => by
    rcases h with h | h
    · exact ⟨(f h).1, .inl (f h).2⟩
    · exact ⟨(f h).1, .inr (f h).2⟩
  refine @SR.mk I0 _ _ _ _ _ _ (by rw [List.length_set, hl]; exact s.len) s.ex (fun j d' h => ?_) (fun j xs h => ?_) (fun j xs h => ?_) (fun j k xs ys p h1 h2 h3 h4 => ?_) s.fF s.fE s.fH s.fB (fun j c ns ds h => ?_) (fun j y h => (exFree_ok hf h).elim)
  · obtain ⟨n, z⟩ := f h
    rw [hs j n]
    exact s.val j d' z
  · obtain ⟨n, z⟩ := f h
    rw [hs j n]
    exact s.own j xs z
  · obtain ⟨n, z⟩ := f h
    rw [hs j n]
    exact s.bor j xs z
  · obtain ⟨n1, q1⟩ := ow h1
    obtain ⟨n2, q2⟩ := ow h2
    rw [hs j n1] at h3
    rw [hs k n2] at h4
    exact s.sep j k xs ys p q1 q2 h3 h4
  · obtain ⟨n, z⟩ := f h
    rw [hs j n]
    exact s.slf j c ns ds z
/-- the facts of the clause, class by class -/
def exmB (c d : Str) (b : Bool) : Ex := fun K => decide (PySem.W.exmOne K (.ref (He.ga K d)) (.ref (He.ga K c)) = some b)
def exmAll (K : PySem.W.Frag) (c : Str) (tb : List (Str × Bool)) : Prop := ∀ d b, tb.lookup d = some b → exmB c d b K = true
def exmL (K : PySem.W.Frag) (c : Str) : List (Str × Bool) → Prop
  | [] => True
  | (d, b) :: r => exmB c d b K = true ∧ exmL K c r
theorem exm_list {K : PySem.W.Frag} {c : Str} : ∀ (tb : List (Str × Bool)), exmL K c tb → exmAll K c tb
  | [], _, d, b, h => by simp at h
  | (x, y) :: r, hf, d, b, h => by
    obtain ⟨h1, h2⟩ := hf
    by_cases e : d = x
    · subst e
      simp [List.lookup] at h
      subst h
      exact h1
    · have : (d == x) = false := by simpa using e
      simp only [List.lookup, this] at h
      exact exm_list r h2 d b h
section
variable [ExI] {X : Cx} {W : WX} {x n : Str} {i : Nat} {body suite : List Stmt} {b₀ : Stmt} {np pos pos' : Pos} {fb fs : DS} {tb : List (Str × Bool)}
theorem ds_try (hs : X.stack = X.env :: X.outer) (hf : X.env.frame = some X.env.locals) (hN : X.N.Nodup) (hi : X.N[i]? = some n) (hln : X.env.kindOf n = some .local) (hc : Names X x (.ref (He.ga X.K x))) (tk : Takes X W) (ht : exmAll X.K x tb)
    (hb : ∀ (W' : WX) (pn : List (Addr × Obj)) (xe : Value → Shared → Prop), Takes (X.tr pn xe) W' → PassesOwn (model X.prog X.w) X.A X.env xe → DSs (X.tr pn xe) W' body fb)
    (hsu : ∀ (a : Addr) (oe : Obj) (cls : Value) (d : Option Addr) (pn : List (Addr × Obj)), Zc cls d oe → (∃ vs, oe.data = .fields vs) → @DSs ⟨some (a, cls, d)⟩ (X.suite a ((a, oe) :: pn)) W0 (b₀ :: suite) fs) :
    DSj X W (.Try body [.ExceptHandler (some (.Name x np)) (some n) (b₀ :: suite) pos'] [] [] pos) (dTry tb i fb fs) := by
  refine ⟨ps_imp (ps_try_as (tb := fun W' => RdS X.K W' fb) (ts := fun a cls d => @RdS ⟨some (a, cls, d)⟩ X.K W0 fs) hs hf hN hi hln hc tk (fun W' pn xe t p => (hb W' pn xe t p).ps) (fun a oe cls d pn hz hd => @DSs.ps ⟨some (a, cls, d)⟩ _ _ _ _ (hsu a oe cls d pn hz hd))) fun D σ H ⟨E, F, st, s, q⟩ => ⟨E, F, st, s, ?_⟩⟩
  unfold dTry at q
  cases e : fb st with
  | nx s1 =>
    rw [e] at q
    exact q
  | bk s1 =>
    rw [e] at q
    exact q
  | ct s1 =>
    rw [e] at q
    exact q
  | rt r s1 =>
    rw [e] at q
    exact q
  | bad =>
    rw [e] at q
    exact q
  | exc y st1 =>
    rw [e] at q
    simp only at q
    intro cls d σ' F' H' s1 ex1 xr
    cases el : tb.lookup y.cls with
    | none =>
      rw [el] at q
      exact q.elim
    | some b =>
      rw [el] at q
      have em := of_decide_eq_true (ht y.cls b el)
      refine ⟨b, by rw [xr.1]; exact em, fun hbt a ha => ?_, fun hbf => ?_⟩
      · subst hbt
        simp only at q
        split at q
        case isFalse => exact q.elim
        rename_i hg
        obtain ⟨g1, g2⟩ := He.ba hg
        have g2' := of_decide_eq_true g2
        refine ⟨E, F', st1.set i (some (.exc y)), s1.toEx g1 g2' xr ha, ?_⟩
        have sg : ∀ (σ2 : L2.St) (j : Nat), j ≠ i → (σ2.set i none)[j]? = σ2[j]? := fun σ2 j n => List.getElem?_set_ne fun z => n z.symm
        cases es : fs (st1.set i (some (.exc y))) with
        | nx s2 =>
          rw [es] at q
          simp only [outE] at q
          split at q
          case isFalse => exact q.elim
          rename_i hx
          exact fun σ2 F2 H2 sr e2 => q (σ2.set i none) F2 H2 (SR.ofEx (I1 := ⟨some (a, cls, d)⟩) sr hx (sg σ2) (by rw [List.length_set])) (ex1.trans e2)
        | bk s2 =>
          rw [es] at q
          simp only [outE] at q
          split at q
          case isFalse => exact q.elim
          rename_i hx
          exact fun σ2 F2 H2 sr e2 => q (σ2.set i none) F2 H2 (SR.ofEx (I1 := ⟨some (a, cls, d)⟩) sr hx (sg σ2) (by rw [List.length_set])) (ex1.trans e2)
        | ct s2 =>
          rw [es] at q
          simp only [outE] at q
          split at q
          case isFalse => exact q.elim
          rename_i hx
          exact fun σ2 F2 H2 sr e2 => q (σ2.set i none) F2 H2 (SR.ofEx (I1 := ⟨some (a, cls, d)⟩) sr hx (sg σ2) (by rw [List.length_set])) (ex1.trans e2)
        | exc z s2 =>
          rw [es] at q
          exact q.elim
        | bad =>
          rw [es] at q
          exact q.elim
        | rt r s2 =>
          rw [es] at q
          cases r with
          | val d' =>
            simp only [outE] at q
            split at q
            case isFalse => exact q.elim
            rename_i hx
            exact fun v σ2 F2 H2 sr e2 rr => q v σ2 F2 H2 (SR.ofEx (I1 := ⟨some (a, cls, d)⟩) sr hx (fun _ _ => rfl) rfl) (ex1.trans e2) rr
          | tmp xs =>
            simp only [outE] at q
            split at q
            case isFalse => exact q.elim
            rename_i hx
            intro v σ2 F2 H2 sr e2 rr
            obtain ⟨p, vs, k1, k2, k3, k4, k5, k6, k7⟩ := rr
            exact q v σ2 F2 H2 (SR.ofEx (I1 := ⟨some (a, cls, d)⟩) sr hx (fun _ _ => rfl) rfl) (ex1.trans e2) ⟨p, vs, k1, k2, k3, k4, fun z => k5 (z.below (below_set s2 i)), k6, k7⟩
          | «at» j =>
            simp only [outE] at q
            split at q
            · rename_i u hu
              split at q
              case isFalse => exact q.elim
              rename_i hx
              intro v σ2 F2 H2 sr e2 rr
              exact q v σ2 F2 H2 (SR.ofEx (I1 := ⟨some (a, cls, d)⟩) sr hx (fun _ _ => rfl) rfl) (ex1.trans e2) ⟨rr.1, u, hu⟩
            · exact q.elim
      · subst hbf
        simp only at q
        exact q cls d σ' F' H' s1 ex1 xr
end
/-! ### e.f in the suite -/
def dExF (i : Nat) (c f : Str) : DX := fun st => match st[i]? with
  | some (some (.exc x)) => if x.cls = c then (match fldOf x.ns x.ds f with
    | some d => .ok (.val d) st
    | none => .bad) else .bad
  | _ => .bad
def xfE (c : Str) : Ex := fun K => xfB K (He.ga K c)
def xnB (c f : Str) : Ex := fun K => decide (PySem.W.findIn K (.ref (He.ga K c)) f = some none)
theorem de_exf {X : Cx} {W : WX} {a : Addr} {oe : Obj} {cls : Value} {d : Option Addr} {pn : List (Addr × Obj)} {e : Expr} {i : Nat} {pos : Pos} {c f : Str} (T : xfE c X.K = true) (hno : xnB c f X.K = true)
    (hz : Zc cls d oe) (hf : ∃ vs, oe.data = .fields vs) (he : PE (X.suite a ((a, oe) :: pn)) e (tVar i)) (hb : attributeBase e f X.env (eval e X.env) = eval e X.env := by rfl) :
    @DE ⟨some (a, cls, d)⟩ (X.suite a ((a, oe) :: pn)) W (.Attribute e f pos) (dExF i c f) := by
  letI : ExI := ⟨some (a, cls, d)⟩
  refine @DE.mk ⟨some (a, cls, d)⟩ _ _ _ _ (pe_imp (pe_xf (C := He.ga X.K c) (xfB_ok T) (of_decide_eq_true hno) hz hf he hb) fun σ H Q ⟨E, F, st, s, q⟩ => ?_)
  unfold dExF at q
  split at q
  · rename_i x ei
    split at q
    case isFalse => exact q.elim
    rename_i hx
    subst hx
    obtain ⟨a', cls', d', k1, k2, k3⟩ := s.exc i x ei
    cases k1
    cases ef : fldOf x.ns x.ds f with
    | none =>
      rw [ef] at q
      exact q.elim
    | some dv =>
      rw [ef] at q
      rcases k3.2 with ⟨z1, z2⟩ | ⟨dd, vs, m1, m2, m3, m4⟩
      · rw [z1] at ef
        cases ef
      · obtain ⟨v, l1, l2⟩ := fldOf_ok m4 ef
        exact ⟨.ref a, k2, rfl, k3.1, dd, _, v, m1, s.ex _ _ m2, l1, q v F H s (Stp.refl F H st σ) l2⟩
  · exact q.elim
end Dl

/-! isinstance(e, C), e a caught error with fields -/
namespace PySem.W
open PySem PySem.Spec PySem.Calls PyProof.Rows
section
variable {prog : Program} {w : World} {A : Around} {E : Value → Shared → Prop} {s : Shared} {K : Frag} {x D : Addr} {ox : Obj} {od : Obj}
theorem dlx_classE {Q : Option Value → Shared → Prop} (hga : findIn K (.ref D) "__getattribute__" = some (some (.builtin "BaseException.__getattribute__"))) (hgt : findIn K (.ref D) "__getattr__" = some none) (hsub : subIn K (.ref D) (.type "BaseException") = some true)
    (hdct : hasDictIn K D = true) (ha : findIn K (.ref D) "__class__" = some (some (.builtin "object.__class__")))
    (hn : specialIn K (.builtin "object.__class__") "__get__" = some (some (.builtin "getset_descriptor.__get__"))) (htk : takesIn K (.builtin "object.__class__") = some true) (hm : mroIn K D (.type "object") = some true)
    (X : K.In s.heap) (I : InstAt s.heap x ox D (some od)) (h : Q (some (.ref D)) { s with toks := s.toks + 1 }) : wpAny (model prog w) A (getAttr? (.ref x) "__class__") Q E s := by
  have hf : findObj K D (some od) "__class__" = some (.bind (.builtin "getset_descriptor.__get__") (.builtin "object.__class__")) := findObj_data (by obtain ⟨cd, hc, _⟩ := any_some hdct; rw [hc]; rfl) ha hn htk
  obtain ⟨hp, g, d, t, os⟩ := s
  have L0 := I.type (M := model prog w)
  have L1 := looks_findIn (M := model prog w) X hga
  have L2 := looks_findIn (M := model prog w) X hgt
  have L3 := looks_find (M := model prog w) X I hf
  have sub : Looks (model prog w) hp (isInstance (.ref x) (.type "BaseException")) true := L0.andThen (looks_subIn X hsub)
  have hx0 : (false && onTheHeap (Value.builtin "BaseException.__getattribute__")) = false := rfl
  have hx2 : (Value.builtin "BaseException.__getattribute__" == Value.builtin "object.__getattribute__") = false := by decide +kernel
  have hx1 : (onTheHeap (Value.ref D) && Value.builtin "BaseException.__getattribute__" == Value.builtin "object.__getattribute__") = false := by rw [hx2]; rfl
  unfold getAttr? getAttrBy? getAttrBy
  refine wpAny_bind (wpAny_mkText (wpAny_bind (wpAny_attempt (wpAny_holding (wpAny_bind (L0.at (wpAny_bind (L1.at ?_))))))))
  show wpAny _ _ (if (onTheHeap (Value.ref D) && Value.builtin "BaseException.__getattribute__" == Value.builtin "object.__getattribute__") = true then _ else _) _ _ _
  rw [hx1, if_neg Bool.false_ne_true]
  unfold getAttrByItsOwn hookBefore
  refine wpAny_bind ?_
  rw [if_pos (show onTheHeap (Value.ref D) = true from rfl)]
  refine L2.at ?_
  refine wpAny_bind (wpAny_attempt (wpAny_holding ?_))
  unfold callGetattribute
  rw [hx0, if_neg Bool.false_ne_true]
  unfold boundAndCalled
  rw [PySem.F.excAttr_ValueError.ga.bind (.ref x)]
  refine wpAny_bind (wpAny_pure ?_)
  show wpAny _ _ (call (.builtin "BaseException.__getattribute__") [.ref x, .str "__class__" t]) _ _ _
  refine wpAny_call (codeAny_call_builtin PySem.F.excAttr_ValueError.ga.plain PySem.F.entry_bexc_ga ?_)
  refine @check_slot (model prog w) _ _ ⟨hp, g, d, t + 1, os⟩ "BaseException.__getattribute__" "BaseException" "__getattribute__" (.ref x) [.str "__class__" t] [] _ (by decide +kernel) (by decide +kernel) sub (PySem.F.args_bexc_ga (.ref x) (.str "__class__" t)) ?_
  unfold Builtin.«object.__getattribute__»
  refine wpAny_bind (wpAny_of_eq (a := ((Value.ref x : Value), [Value.str "__class__" t])) (by first | rfl | (simp only [slotArgs]; rfl)) ?_)
  refine wpAny_bind (wpAny_pure (wpAny_bind (L0.at (wpAny_bind (L3.at ?_)))))
  show wpAny _ _ (holding [Value.builtin "object.__class__"] (call (.builtin "getset_descriptor.__get__") [.builtin "object.__class__", .ref x, .ref D]) >>= ret) _ _ _
  refine wpAny_bind (wpAny_holding (wpAny_call (class_get (s := ⟨hp, g, d, t + 1, os⟩) (ox := ox) (od := some od) X I hm ?_)))
  refine wpAny_pure ?_
  show wpAny _ _ (handedOut (.ref D)) _ _ _
  rw [handedOut_of (v := .ref D) rfl]
  first
    | exact wpAny_pure (wpAny_pure h)
    | exact wpAny_pure h
    | exact wpAny_pure (wpAny_bind (wpAny_pure (wpAny_pure h)))
theorem dlx_kitx (hga : findIn K (.ref D) "__getattribute__" = some (some (.builtin "BaseException.__getattribute__"))) (hgt : findIn K (.ref D) "__getattr__" = some none) (hsub : subIn K (.ref D) (.type "BaseException") = some true) (hdct : hasDictIn K D = true) (ha : findIn K (.ref D) "__class__" = some (some (.builtin "object.__class__")))
    (hn : specialIn K (.builtin "object.__class__") "__get__" = some (some (.builtin "getset_descriptor.__get__"))) (htk : takesIn K (.builtin "object.__class__") = some true) (hm : mroIn K D (.type "object") = some true) :
    KitX K (.ref x) (.ref D) (fun h => InstAt h x ox D (some od)) where
  ty := fun _ _ _ I => I.type
  it := fun _ _ X _ => by
    obtain ⟨cdD, hcD, _⟩ := any_some hdct
    unfold clsIn at hcD
    split at hcD
    · rename_i c' d' cd' sl' ho
      intro A' Q' E' s' k q
      unfold isType loadHead
      exact wpAny_bind (wpAny_loadPart (k _ _ (X _ _ ho)) (wpAny_pure q))
    · cases hcD
  ne := fun h tp dd its n sl X htp => by
    obtain ⟨cdD, hcD, _⟩ := any_some hdct
    refine Bool.eq_false_iff.mpr fun q => ?_
    have e : D = tp := Value.ref.inj (beq_iff_eq.mp q)
    subst e
    unfold clsIn at hcD
    split at hcD
    · rename_i c' d' cd' sl' ho
      have z := (X _ _ ho).symm.trans htp
      cases z
    · cases hcD
  ca := fun X I k => dlx_classE hga hgt hsub hdct ha hn htk hm X I k
end
end PySem.W
namespace Dl
open PySem L2 PySem.Spec PyProof.Rows
/-- isinstance(e, c), e with its dict -/
def rIsX (K : PySem.W.Frag) (C a : Addr) (cls : Value) (d : Option Addr) : List V → Hp → VK → Prop := fun xs H Q => cls = .ref C ∧ ∃ (c : V) (cv : Value) (b : Bool) (dd : Addr) (fs : List (Str × V)), xs = [.ref a, c] ∧ d = some dd ∧ H dd = some (.xd fs) ∧ (∀ u, RelV c u → u = cv) ∧ PySem.W.kitOne K (.ref C) cv = some b ∧ Q (.bl b) H
theorem call_isX {X : Cx} {a D : Addr} {oe : Obj} {cls : Value} {d : Option Addr} {pn : List (Addr × Obj)} (C : ExcC X.K D) (hz : Zc cls d oe) (hf : ∃ vs, oe.data = .fields vs) : CallR (X.suite a ((a, oe) :: pn)) (.builtin "isinstance") (rIsX X.K D a cls d) := by
  intro pins s σ H xs us Q I r h
  obtain ⟨rfl, c, cv, b, dd, fs, rfl, rfl, hdd, hcv, e, q⟩ := h
  cases r with
  | cons rx rr =>
    cases rr with
    | cons rt rr =>
      cases rr
      cases rx
      have ec := hcv _ rt
      subst ec
      obtain ⟨hget, _⟩ := I.pin (a, oe) (List.mem_append.mpr (.inl List.mem_cons_self))
      obtain ⟨vs, hv⟩ := hf
      have hx : ObjOk X.prog X.w H s.heap dd (.xd fs) := I.hok dd _ hdd
      obtain ⟨mA, hns, hr⟩ := hx
      obtain ⟨od, ho, hl⟩ := lookIn_ns hns
      have J : PySem.W.InstAt s.heap a oe D (some od) := ⟨hget, hz.1, by unfold PySem.W.notCls; rw [hv] <;> rfl, by rw [hz.2]; exact ho⟩
      exact PySem.W.kia_one (PySem.W.dlx_kitx C.hg C.hk C.hs C.hd C.ha C.hn C.ht C.hm) I.kIn J e (fun z => nomatch z) fun tk => ⟨.bl b, H, I.kept (t' := tk) fun _ _ z => z, rfl, q⟩
def excCB (c : Str) : Ex := fun K => decide (PySem.W.findIn K (.ref (He.ga K c)) "__getattribute__" = some (some (.builtin "BaseException.__getattribute__"))) && (decide (PySem.W.findIn K (.ref (He.ga K c)) "__getattr__" = some none) && (decide (PySem.W.subIn K (.ref (He.ga K c)) (.type "BaseException") = some true) && (PySem.W.hasDictIn K (He.ga K c) && (decide (PySem.W.findIn K (.ref (He.ga K c)) "__class__" = some (some (.builtin "object.__class__"))) && (decide (PySem.W.specialIn K (.builtin "object.__class__") "__get__" = some (some (.builtin "getset_descriptor.__get__"))) && (decide (PySem.W.takesIn K (.builtin "object.__class__") = some true) && decide (PySem.W.mroIn K (He.ga K c) (.type "object") = some true)))))))
theorem excCB_ok {c : Str} {K : PySem.W.Frag} (h : excCB c K = true) : ExcC K (He.ga K c) := by
  obtain ⟨h1, h⟩ := He.ba h
  obtain ⟨h2, h⟩ := He.ba h
  obtain ⟨h3, h⟩ := He.ba h
  obtain ⟨h4, h⟩ := He.ba h
  obtain ⟨h5, h⟩ := He.ba h
  obtain ⟨h6, h⟩ := He.ba h
  obtain ⟨h7, h8⟩ := He.ba h
  exact ⟨of_decide_eq_true h1, of_decide_eq_true h2, of_decide_eq_true h3, h4, of_decide_eq_true h5, of_decide_eq_true h6, of_decide_eq_true h7, of_decide_eq_true h8⟩
/-- of the class c by c2 -/
def kitXB (c c2 : Str) (b : Bool) : Ex := fun K => decide (PySem.W.kitOne K (.ref (He.ga K c)) (.ref (He.ga K c2)) = some b)
def kitTB (c : Str) (T : String) (b : Bool) : Ex := fun K => decide (PySem.W.kitOne K (.ref (He.ga K c)) (.type T) = some b)
def dExIs (i : Nat) (c : Str) (b : Bool) : DX := fun st => match st[i]? with
  | some (some (.exc x)) => if x.cls = c ∧ x.ns.length ≠ 0 then .ok (.val (.bl b)) st else .bad
  | _ => .bad
section
variable {X : Cx} {W : WX} {a : Addr} {oe : Obj} {cls : Value} {d : Option Addr} {pn : List (Addr × Obj)} {e e2 : Expr} {i : Nat} {p pos : Pos} {c : Str} {b : Bool}
theorem de_isxV {v2 : V} {cv : Value} (C : excCB c X.K = true) (hk : PySem.W.kitOne X.K (.ref (He.ga X.K c)) cv = some b) (hv2 : ∀ u, RelV v2 u → u = cv)
    (hz : Zc cls d oe) (hf : ∃ vs, oe.data = .fields vs) (he : PE (X.suite a ((a, oe) :: pn)) e (tVar i)) (he2 : PE (X.suite a ((a, oe) :: pn)) e2 (tC v2)) (hg : Gl (X.suite a ((a, oe) :: pn)) "isinstance") (hm : (X.suite a ((a, oe) :: pn)).mg "isinstance" = none)
    (hs : starEach [e, e2] (X.suite a ((a, oe) :: pn)).env = (false, eval e (X.suite a ((a, oe) :: pn)).env) :: starEach [e2] (X.suite a ((a, oe) :: pn)).env := by rfl) (hs2 : starEach [e2] (X.suite a ((a, oe) :: pn)).env = (false, eval e2 (X.suite a ((a, oe) :: pn)).env) :: starEach [] (X.suite a ((a, oe) :: pn)).env := by rfl)
    (hpl : (backTo pos (starEach [e2] (X.suite a ((a, oe) :: pn)).env)).any (·.1) = false := by rfl) :
    @DE ⟨some (a, cls, d)⟩ (X.suite a ((a, oe) :: pn)) W (.Call (.Name "isinstance" p) [e, e2] [] pos) (dExIs i c b) := by
  letI : ExI := ⟨some (a, cls, d)⟩
  refine @DE.mk ⟨some (a, cls, d)⟩ _ _ _ _ (pe_imp (pe_callB (call_isX (excCB_ok C) hz hf) hg hm boot_isinstance (pa_cons he (pa_cons he2 pa_nil hs2) hs) (by decide) (by decide) hs hpl) fun σ H Q ⟨E, F, st, s, q⟩ => ?_)
  unfold dExIs at q
  split at q
  · rename_i x ei
    split at q
    case isFalse => exact q.elim
    rename_i hx
    obtain ⟨hx1, hx2⟩ := hx
    subst hx1
    obtain ⟨a', cls', d', k1, k2, k3⟩ := s.exc i x ei
    cases k1
    rcases k3.2 with ⟨z1, z2⟩ | ⟨dd, vs, m1, m2, m3, m4⟩
    · exact absurd (by rw [z1]; rfl) hx2
    · exact ⟨.ref a, k2, k3.1, v2, cv, b, dd, _, rfl, m1, s.ex _ _ m2, hv2, hk, q _ F H s (Stp.refl F H st σ) (by simp only [RR, Rep])⟩
  · exact q.elim
theorem de_isx {c2 : Str} {np : Pos} (C : excCB c X.K = true) (hk : kitXB c c2 b X.K = true)
    (hz : Zc cls d oe) (hf : ∃ vs, oe.data = .fields vs) (he : PE (X.suite a ((a, oe) :: pn)) e (tVar i)) (hg2 : Gl (X.suite a ((a, oe) :: pn)) c2) (hm2 : (X.suite a ((a, oe) :: pn)).mg c2 = some (.ref (He.ga X.K c2))) (hg : Gl (X.suite a ((a, oe) :: pn)) "isinstance") (hm : (X.suite a ((a, oe) :: pn)).mg "isinstance" = none)
    (hd : (c2 == ("__debug__" : Str)) = false := by decide)
    (hs : starEach [e, .Name c2 np] (X.suite a ((a, oe) :: pn)).env = (false, eval e (X.suite a ((a, oe) :: pn)).env) :: starEach [.Name c2 np] (X.suite a ((a, oe) :: pn)).env := by rfl) :
    @DE ⟨some (a, cls, d)⟩ (X.suite a ((a, oe) :: pn)) W (.Call (.Name "isinstance" p) [e, .Name c2 np] [] pos) (dExIs i c b) :=
  de_isxV (v2 := .ref (He.ga X.K c2)) (cv := .ref (He.ga X.K c2)) C (of_decide_eq_true hk) (fun _ h => h) hz hf he (pe_glob hg2 hm2 rfl hd) hg hm hs
end
end Dl

namespace Dl
open PySem L2 PySem.Spec PyProof.Rows
variable [ExI]
/-! ### C.m(..), m a static method -/
def smB (c m : Str) : Ex := fun K => He5.wrapB K (He.ga K c) "staticmethod" "staticmethod.__get__" m && (PySem.W.keepIn K (.ref (He5.wf K (He.ga K c) "staticmethod" m)) && (PySem.W.readsIn K (He.ga K c) (.type "type") && He.eqO (PySem.W.specialIn K (.ref (He.ga K c)) "__getattribute__") (some (some (.builtin "type.__getattribute__")))))
section
variable {X : Cx} {W : WX} {CX : CXT} {k : Nat} {m c : Str} {sp : Sp} {E : L2.St → XK} {o e : Expr} {es : List Expr} {ta : TE} {t : TA} {apos pos : Pos} {pl : Sem Bool} {f : FnD} {fo : DX} {g' : DA}
theorem getmethsm_ok {pins : List (Addr × Obj)} {σ : L2.St} {H : Hp} {s : Shared} {A : Around} {E : Value → Shared → Prop} {pl : Sem Bool} {Q : Value × List Value → Shared → Prop} (I : Inv X pins σ H s) (hc : smB c m X.K = true)
    (h : ∀ s', Inv X pins σ H s' → Q (.ref (He5.wf X.K (He.ga X.K c) "staticmethod" m), []) s') : wpAny (model X.prog X.w) A (getMethod (.ref (He.ga X.K c)) m pl) Q E s := by
  obtain ⟨h1, h2⟩ := He.ba hc
  obtain ⟨h3, h4⟩ := He.ba h2
  obtain ⟨h5, h6⟩ := He.ba h4
  obtain ⟨k1, rest, k2⟩ := He5.wrapB_ok h1
  refine PySem.W.method_cls I.kIn (He.eqO_ok h6) ?_
  refine PySem.W.cls_bind I.kIn h5 k1 ?_
  refine wpAny_call (PySem.W.sm_get (s := { s with toks := s.toks + 1 }) I.kIn k2 (PySem.W.handed_on rfl ?_))
  exact h _ (I.tok _)
theorem pe_smethA (he : PE X o ta) (hc : smB c m X.K = true) (F : FnR X.prog X.w X.K X.mg X.base CX k (He5.wf X.K (He.ga X.K c) "staticmethod" m) sp) (hr : Room k X.A) (hx : ∀ σ, PassesAt CX X σ (E σ)) (ha : PA X (e :: es) t)
    (hst : starEach (e :: es) X.env = (false, eval e X.env) :: starEach es X.env := by rfl) (hpl : (backTo pos (starEach es X.env)).any (·.1) = false := by rfl)
    (ht : eval (.Call (.Attribute o m apos) (e :: es) [] pos) X.env = (do
      let ov ← eval o X.env
      standAt apos.atName
      let (f, first) ← holding [ov] (getMethod ov m pl)
      callWith pos f first (backTo pos (starEach (e :: es) X.env)) (backToKw pos (keywordEach [] X.env))) := by rfl) :
    PE X (.Call (.Attribute o m apos) (e :: es) [] pos) (fun σ H Q => ta σ H fun x H1 => x = .ref (He.ga X.K c) ∧ t σ H1 fun vs H2 => sp vs H2 Q (E σ)) := by
  refine ⟨fun pins s σ H Q I h => ?_⟩
  refine PySem.W.methodCall_KW (pl := pl) (thn (he.run pins s σ H _ I h) fun u s1 ⟨x, H1, I1, rx, ex, q⟩ => ?_) ht
  subst ex
  obtain rfl : u = Value.ref (He.ga X.K c) := rx
  refine getmethsm_ok I1 hc fun s2 I2 => ?_
  have kp := (He.ba (He.ba hc).2).1
  refine PySem.W.callWith_K (first := []) (h₀ := X.base) I.ok.mod.kin kp (thn (ha.run pos pins s2 σ H1 _ I2 q) fun us s3 ⟨vs, H2, I3, r, q2⟩ => ⟨I3.kIn, ?_⟩) hst hpl
  exact wpAny_call (run_fnRA (us := us) (vs := vs) F hr (hx σ) I3 r q2)
theorem pe_smethA0 (he : PE X o ta) (hc : smB c m X.K = true) (F : FnR X.prog X.w X.K X.mg X.base CX k (He5.wf X.K (He.ga X.K c) "staticmethod" m) sp) (hr : Room k X.A) (hx : ∀ σ, PassesAt CX X σ (E σ))
    (ht : eval (.Call (.Attribute o m apos) [] [] pos) X.env = (do
      let ov ← eval o X.env
      standAt apos.atName
      let (f, first) ← holding [ov] (getMethod ov m pl)
      callWith pos f first (backTo pos (starEach [] X.env)) (backToKw pos (keywordEach [] X.env))) := by rfl) :
    PE X (.Call (.Attribute o m apos) [] [] pos) (fun σ H Q => ta σ H fun x H1 => x = .ref (He.ga X.K c) ∧ sp [] H1 Q (E σ)) := by
  refine ⟨fun pins s σ H Q I h => ?_⟩
  refine PySem.W.methodCall_KW (pl := pl) (thn (he.run pins s σ H _ I h) fun u s1 ⟨x, H1, I1, rx, ex, q⟩ => ?_) ht
  subst ex
  obtain rfl : u = Value.ref (He.ga X.K c) := rx
  refine getmethsm_ok I1 hc fun s2 I2 => ?_
  have kp := (He.ba (He.ba hc).2).1
  exact PySem.W.callWith_K0 (first := []) I2.kIn kp (wpAny_call (run_fnRA (us := []) (vs := []) F hr (hx σ) I2 .nil q))
def dSMeth (c : Str) (f : FnD) (fo : DX) (g : DA) : DX := bnd fo fun r st => match r with
  | .val (.gl x) => if x = c then bnd g (callY f) st else .bad
  | _ => .bad
theorem de_smeth (he : DE X W o fo) (hc : smB c m X.K = true) (G : FnY X.prog X.w X.K X.mg X.base k (He5.wf X.K (He.ga X.K c) "staticmethod" m) f) (hr : Room k X.A) (tk : Takes X W) (ha : DAs X W (e :: es) g')
    (hst : starEach (e :: es) X.env = (false, eval e X.env) :: starEach es X.env := by rfl) (hpl : (backTo pos (starEach es X.env)).any (·.1) = false := by rfl)
    (ht : eval (.Call (.Attribute o m apos) (e :: es) [] pos) X.env = (do
      let ov ← eval o X.env
      standAt apos.atName
      let (f, first) ← holding [ov] (getMethod ov m pl)
      callWith pos f first (backTo pos (starEach (e :: es) X.env)) (backToKw pos (keywordEach [] X.env))) := by rfl) : DE X W (.Call (.Attribute o m apos) (e :: es) [] pos) (dSMeth c f fo g') := by
  refine ⟨pe_imp (pe_smethA (E := fun σ c d H => W c d σ H) he.pe hc G hr (fun σ => passAt tk σ) ha.pa hst hpl ht) fun σ H Q ⟨E, F, st, s, q⟩ => ?_⟩
  refine Rd.first s q fun v F1 H1 st1 r s1 p1 k1 q1 => ?_
  split at q1
  · rename_i x
    by_cases z : x = c
    · rw [if_pos z] at q1
      have ev : v = .ref (He.ga X.K x) := by simpa only [RR, Rep] using k1
      subst z
      exact ⟨ev, Rd.next s1 p1 q1 fun ws F2 H2 st2 rs s2 p2 p k2 q2 => p_callY s2 p ⟨paired_base p1.live k2.1, k2.2⟩ q2⟩
    · rw [if_neg z] at q1
      exact q1.elim
  · exact q1.elim
theorem de_smeth0 (he : DE X W o fo) (hc : smB c m X.K = true) (G : FnY X.prog X.w X.K X.mg X.base k (He5.wf X.K (He.ga X.K c) "staticmethod" m) f) (hr : Room k X.A) (tk : Takes X W)
    (ht : eval (.Call (.Attribute o m apos) [] [] pos) X.env = (do
      let ov ← eval o X.env
      standAt apos.atName
      let (f, first) ← holding [ov] (getMethod ov m pl)
      callWith pos f first (backTo pos (starEach [] X.env)) (backToKw pos (keywordEach [] X.env))) := by rfl) : DE X W (.Call (.Attribute o m apos) [] [] pos) (dSMeth c f fo dNil) := by
  refine ⟨pe_imp (pe_smethA0 (E := fun σ c d H => W c d σ H) he.pe hc G hr (fun σ => passAt tk σ) ht) fun σ H Q ⟨E, F, st, s, q⟩ => ?_⟩
  refine Rd.first s q fun v F1 H1 st1 r s1 p1 k1 q1 => ?_
  split at q1
  · rename_i x
    by_cases z : x = c
    · rw [if_pos z] at q1
      have ev : v = .ref (He.ga X.K x) := by simpa only [RR, Rep] using k1
      subst z
      exact ⟨ev, p_callY s1 p1 ⟨.nil, trivial⟩ q1⟩
    · rw [if_neg z] at q1
      exact q1.elim
  · exact q1.elim
end
end Dl

namespace Dl
open PySem L2 PySem.Spec PyProof.Rows
variable [ExI]
/-! ### a comprehension over a list that stays the law's own -/
/-- the list of slot i is read turn by turn; its length stands -/
def compO (i n : Nat) (t : Tgt) (ft : DT) (fe : DX) (vs : List Nat) : Nat → List D → DSt → Out R
  | 0, acc, st => (match getC st i with
    | some xs => if xs.length = n then .ok (.tmp acc) st else .bad
    | none => .bad)
  | k + 1, acc, st => (match getC st i with
    | some xs => if xs.length = n then (match xs[n - (k + 1)]? with
      | some d => (match asgT t d (wipeD st vs) with
        | none => .bad
        | some st1 => match ft st1 with
          | .ok true st2 => (match fe st2 with
            | .ok r st3 => (match frz1 r st3 with
              | some (x, st4) => if acc.length < lim then compO i n t ft fe vs k (acc ++ [x]) (unwipe st st4 vs) else .bad
              | none => .bad)
            | _ => .bad)
          | .ok false st2 => compO i n t ft fe vs k acc (unwipe st st2 vs)
          | _ => .bad)
      | none => .bad) else .bad
    | none => .bad)
def dLcO (i : Nat) (t : Tgt) (ft : DT) (fe : DX) (vs : List Nat) : DX := fun st => match getC st i with
  | some xs => compO i xs.length t ft fe vs xs.length [] st
  | none => .bad
section
variable {X : Cx} {W : WX} {tg iter elt : Expr} {ifs : List Expr} {pos : Pos}
theorem getC_has {K : PySem.W.Frag} {E : Ent} {F H : Hp} {st : DSt} {σ : L2.St} {i : Nat} {xs : List D} (s : SR K E F H st σ) (h : getC st i = some xs) : ∃ p vs, σ[i]? = some (some (.ref p)) ∧ H p = some (.lst vs) ∧ RepL K F xs vs := by
  unfold getC at h
  split at h
  · rename_i e
    cases h
    obtain ⟨p, vs, k1, _, k3, k4, _⟩ := s.own i _ e
    exact ⟨p, vs, k1, k3, k4⟩
  · rename_i e
    cases h
    obtain ⟨p, vs, k1, _, k3, k4, _⟩ := s.bor i _ e
    exact ⟨p, vs, k1, k3, k4⟩
  · cases h
theorem walk_own {K : PySem.W.Frag} {p : Addr} {n : Nat} : Walk (Itl K p) n (fun H => ∃ vs, H p = some (.lst vs) ∧ vs.length = n) (fun i H x H' => H' = H ∧ ∀ vs, H p = some (.lst vs) → vs[i]? = some x) :=
  ⟨fun i H hi ⟨vs, h, e⟩ => ⟨vs, vs[i]'(by omega), SqL.of h, by simp [show i < vs.length by omega]⟩, fun H ⟨vs, h, e⟩ => ⟨vs, SqL.of h, by omega⟩, fun i H x H' hi ⟨vs, h, e⟩ y => ⟨y.1, fun ws hw => y.2 ws (SqL.of hw)⟩⟩
theorem rd_lcO {K : PySem.W.Frag} {i0 : Nat} {t : Tgt} {ft : DT} {fe : DX} {vs : List Nat} (hvs : ∀ j ∈ t.slots, j ∈ vs) {σ : L2.St} {H : Hp} {Q : VK} (q : RdE K W (dLcO i0 t ft fe vs) σ H Q) : tLc (iAny K (tVar i0)) (RdG K t) (RdT K W0 ft) (RdE K W0 fe) vs σ H Q := by
  obtain ⟨E, F, st, s, q⟩ := q
  unfold dLcO at q
  cases e : getC st i0 with
  | none =>
    rw [e] at q
    exact q.elim
  | some xs =>
    rw [e] at q
    simp only at q
    obtain ⟨p, vs0, g1, g2, g3⟩ := getC_has s e
    refine ⟨.ref p, g1, .inl ⟨p, rfl, ⟨vs0, SqL.of g2⟩, ?_⟩⟩
    intro D hD
    have s' := s
    have p' := Stp.refl F H st σ
    have wk := walk_own (K := K) (p := p) (n := xs.length)
    refine lc_it wk (fun i H1 => ∃ F1 st1 acc us, SR K E F1 H1 st1 σ ∧ Same F F1 ∧ Stp F H st σ F1 H1 st1 ∧ H1 D = some (.lst us) ∧ RepL K F1 acc us ∧ F1 D = none ∧ ¬ OwnAt st1 σ D ∧ Cont K W (RR K) E F H st σ (compO i0 xs.length t ft fe vs (xs.length - i) acc st1) Q) ?_ ?_ ?_ ?_
    · exact ⟨F, st, [], [], s'.grow hD, Same.refl F, p'.trans (s'.stpGrow hD), upd_same, RepL.nil, free_F s'.ex hD, s'.notOwn hD, by rw [Nat.sub_zero]; exact q⟩
    · rintro i H1 hi ⟨F1, st1, acc, us, s1, e1, p1, h1, r1, f1, n1, c1⟩
      have hc : ∃ ys, getC st1 i0 = some ys ∧ ys.length = xs.length := by
        cases hk : xs.length - i with
        | zero =>
          rw [hk] at c1
          simp only [compO] at c1
          split at c1
          · rename_i ys e5
            by_cases e6 : ys.length = xs.length
            · exact ⟨ys, e5, e6⟩
            · rw [if_neg e6] at c1
              exact c1.elim
          · exact c1.elim
        | succ k =>
          rw [hk] at c1
          simp only [compO] at c1
          split at c1
          · rename_i ys e5
            by_cases e6 : ys.length = xs.length
            · exact ⟨ys, e5, e6⟩
            · rw [if_neg e6] at c1
              exact c1.elim
          · exact c1.elim
      obtain ⟨ys, hy1, hy2⟩ := hc
      obtain ⟨p2, ws, w1, w2, w3⟩ := getC_has s1 hy1
      rw [g1] at w1
      cases w1
      exact ⟨ws, w2, by rw [← w3.length]; exact hy2⟩
    · rintro i x H1 H2 hi ⟨F1, st1, acc, us, s1, e1, p1, h1, r1, f1, n1, c1⟩ y
      obtain ⟨eH, y⟩ := y
      obtain ⟨k, hk⟩ : ∃ k, xs.length - i = k + 1 := ⟨xs.length - i - 1, by omega⟩
      have hk2 : xs.length - (k + 1) = i := by omega
      have hk3 : xs.length - (i + 1) = k := by omega
      rw [hk] at c1
      simp only [compO] at c1
      cases e5 : getC st1 i0 with
      | none =>
        rw [e5] at c1
        exact c1.elim
      | some ys =>
      rw [e5] at c1
      simp only at c1
      by_cases e6 : ys.length = xs.length
      case neg =>
        rw [if_neg e6] at c1
        exact c1.elim
      rw [if_pos e6, hk2] at c1
      obtain ⟨p2, ws, w1, w2, w3⟩ := getC_has s1 e5
      rw [g1] at w1
      cases w1
      obtain ⟨d, hd, rd⟩ := w3.getV (y ws w2)
      rw [hd] at c1
      simp only at c1
      have yl : YldD K F1 H1 x H2 d := .inl ⟨eH, rd⟩
      rw [hk3]
      obtain ⟨F2, s2, e2, r2, p2⟩ := yld_sr yl s1 (Same.refl F1)
      have h2 : H2 D = some (.lst us) ∧ F2 D = F1 D := p2.keep D _ h1 n1
      refine ⟨E, F2, wipeD st1 vs, d, s2.wipe vs, r2, ?_⟩
      cases ha : asgT t d (wipeD st1 vs) with
      | none =>
        rw [ha] at c1
        exact c1
      | some st2 =>
        rw [ha] at c1
        simp only at c1
        intro σ2 s3 out
        have hσ : σ2.length = σ.length := by
          rw [← s3.len, (asgT_get (k := 0) ha).1, wipeD_len, s1.len]
        have outv : ∀ j, j ∉ vs → σ2[j]? = σ[j]? := fun j hj => by
          rw [out j fun z => hj (hvs j z), wipe_out hj]
        have w3 : StpW F2 H2 st1 σ vs F2 H2 st2 σ2 := by
          refine ⟨Same.refl F2, fun a o h _ => ⟨h, rfl⟩, fun p ⟨k, ys, a, b⟩ => ?_, fun k z hz => (asgT_get (k := k) ha).2.2 z hz, fun a h => h, outv⟩
          have g := (asgT_get (k := k) ha).2.1
          have gk : k ∉ t.slots ∧ ((wipeD st1 vs)[k]? = some (some (.own ys)) ∨ (wipeD st1 vs)[k]? = some (some (.bor ys))) := by
            rcases a with a | a
            · rcases g _ a with ⟨d', z⟩ | ⟨z1, z2⟩
              · cases z
              · exact ⟨z1, .inl z2⟩
            · rcases g _ a with ⟨d', z⟩ | ⟨z1, z2⟩
              · cases z
              · exact ⟨z1, .inr z2⟩
          exact ⟨k, ys, gk.2, by rw [← out k gk.1]; exact b⟩
        refine ⟨wipe_ext hσ outv, E, F2, st2, s3, ?_⟩
        have nD : ∀ {st5 : DSt} {F5 H5 : Hp}, StpW F2 H2 st1 σ vs F5 H5 st5 σ2 → ¬ OwnAt (wipeD st1 vs) (L2.wipe σ vs) D := fun _ z => by
          obtain ⟨k, ys, _, k2, k3⟩ := own_wipe z
          exact n1 ⟨k, ys, k2, k3⟩
        cases hb : ft st2 with
        | bad =>
          rw [hb] at c1
          exact c1
        | exc x st3 =>
          rw [hb] at c1
          exact c1.elim
        | ok b st3 =>
          rw [hb] at c1
          cases b with
          | false =>
            simp only at c1
            intro b' F3 H3 s4 p4 rb
            have eb : false = b' := rb
            subst eb
            refine iteF ?_
            have w4 := w3.step p4
            obtain ⟨s5, p5⟩ := s2.unw s4 w4 hσ
            obtain ⟨k1, k2⟩ := w4.keep D _ h2.1 (nD w4)
            exact ⟨F3, _, acc, us, s5, e1.trans (e2.trans p4.ex), (p1.trans p2).trans p5, k1, RepL.mono (e2.trans p4.ex) acc r1, by rw [k2, h2.2]; exact f1, fun z => n1 (p5.own D z), c1⟩
          | true =>
            simp only at c1
            intro b' F3 H3 s4 p4 rb
            have eb : true = b' := rb
            subst eb
            refine iteT ⟨E, F3, st3, s4, ?_⟩
            cases hr : fe st3 with
            | bad =>
              rw [hr] at c1
              exact c1
            | exc x st4 =>
              rw [hr] at c1
              exact c1.elim
            | ok r st4 =>
              rw [hr] at c1
              simp only at c1
              intro v F4 H4 s5 p5 rv
              cases hz : frz1 r st4 with
              | none =>
                rw [hz] at c1
                exact c1.elim
              | some dq =>
                obtain ⟨dv, st5⟩ := dq
                rw [hz] at c1
                simp only at c1
                split at c1
                · rename_i hlim
                  have w5 := (w3.step p4).step p5
                  obtain ⟨F5, f5, r5⟩ := frz1_ok s5 rv hz
                  have w6 : StpW F2 H2 st1 σ vs F5 H4 st5 σ2 := by
                    refine ⟨w5.ex.trans f5.ex, fun a o h n => ?_, fun p z => w5.own p (f5.own p z), fun k u z => ?_, w5.live, w5.out⟩
                    · obtain ⟨k1, k2⟩ := w5.keep a o h n
                      refine ⟨k1, ?_⟩
                      by_cases ea : F5 a = F4 a
                      · rw [ea]
                        exact k2
                      · exfalso
                        rcases f5.chg a ea with z | ⟨_, _, z⟩
                        · exact n (w5.own a z)
                        · have h3 : H3 a = some o := ((w3.step p4).keep a o h n).1
                          rw [h3] at z
                          cases z
                    · obtain ⟨u', kk⟩ := w5.dfd k u z
                      exact f5.dfd k u' kk
                  obtain ⟨s6, p6⟩ := s2.unw f5.sr w6 hσ
                  obtain ⟨k1, k2⟩ := w6.keep D _ h2.1 (nD w6)
                  have fD : F5 D = none := by rw [k2, h2.2]; exact f1
                  have nOw : ¬ OwnAt (unwipe st1 st5 vs) σ D := fun z => n1 (p6.own D z)
                  refine ⟨us, k1, by rw [← r1.length]; exact lim_lt hlim, F5, _, acc ++ [dv], us ++ [v], ?_, e1.trans (e2.trans w6.ex), ?_, upd_same, (RepL.mono (e2.trans w6.ex) acc r1).append (RepL.one r5), fD, nOw, c1⟩
                  · -- the made list has grown
                    refine ⟨s6.len, fun a u z => ?_, s6.val, fun j ys z => ?_, fun j ys z => ?_, s6.sep, s6.fF, s6.fE, fun a u z n => ?_, fun j q2 z => ?_, s6.slf, s6.exc⟩
                    · rw [upd_ne (fun y => by rw [y, fD] at z; cases z)]
                      exact s6.ex a u z
                    · obtain ⟨p7, ws, m1, m2, m3, m4, m5⟩ := s6.own j ys z
                      exact ⟨p7, ws, m1, m2, by rw [upd_ne (fun y => nOw ⟨j, ys, .inl z, by rw [← y]; exact m1⟩)]; exact m3, m4, m5⟩
                    · obtain ⟨p7, ws, m1, m2, m3, m4, m5⟩ := s6.bor j ys z
                      exact ⟨p7, ws, m1, m2, by rw [upd_ne (fun y => nOw ⟨j, ys, .inr z, by rw [← y]; exact m1⟩)]; exact m3, m4, m5⟩
                    · have nd : a ≠ D := fun y => by
                        rw [y, s'.fresh0 hD] at z
                        cases z
                      rw [upd_ne nd]
                      exact s6.fH a u z n
                    · unfold upd
                      split
                      · exact fun y => nomatch y
                      · exact s6.fB j q2 z
                  · have p7 := (p1.trans p2).trans p6
                    refine ⟨p7.ex, fun a o h n => ?_, p7.own, p7.dfd, fun a z => ?_⟩
                    · obtain ⟨m1, m2⟩ := p7.keep a o h n
                      have nd : a ≠ D := fun y => by
                        have := p'.live D hD
                        rw [y, this] at h
                        cases h
                      exact ⟨by rw [upd_ne nd]; exact m1, m2⟩
                    · unfold upd at z
                      split at z
                      · cases z
                      · exact p7.live a z
                · exact c1.elim
    · rintro H1 ⟨F1, st1, acc, us, s1, e1, p1, h1, r1, f1, n1, c1⟩
      rw [Nat.sub_self] at c1
      simp only [compO] at c1
      split at c1
      case h_2 => exact c1.elim
      split at c1
      case isFalse => exact c1.elim
      exact c1 (.ref D) F1 H1 s1 p1 ⟨D, us, rfl, f1, h1, r1, n1, s'.fresh0 hD, p'.live D hD⟩
theorem de_lcO {i : Nat} {t : Tgt} {ft : DT} {fe : DX} {scope : Scope} {own : List (Str × Nat)} (hc : X.calm = true) (hN : X.N.Nodup) (hi : PE X iter (tVar i)) (ok : BlkOk X.N X.env.scope scope own)
    (hg : ∀ (s : Shared) (H : Hp) (C : Addr) (cl : List (Str × Addr)) (fp : List Addr), DG (X.blk s H scope (compEnvC scope cl C X.env) fp) tg t)
    (ht : ∀ (s : Shared) (H : Hp) (C : Addr) (cl : List (Str × Addr)) (fp : List Addr), DTl (X.blk s H scope (compEnvC scope cl C X.env) fp) W0 ifs ft)
    (he : ∀ (s : Shared) (H : Hp) (C : Addr) (cl : List (Str × Addr)) (fp : List Addr), DE (X.blk s H scope (compEnvC scope cl C X.env) fp) W0 elt fe) (hvs : ∀ j ∈ t.slots, j ∈ own.map (·.2) := by decide)
    (hs : ∀ x, foldedSetIterable iter X.env x = pure x := by intro _; rfl) : DE X W (.ListComp elt [⟨tg, iter, ifs, 0⟩] scope pos) (dLcO i t ft fe (own.map (·.2))) :=
  ⟨pe_imp (pe_lc (g := RdG X.K t) (tt := RdT X.K W0 ft) (te := RdE X.K W0 fe) hc hN (pi_any hi) ok (fun s H C cl fp => (hg s H C cl fp).pg) (fun s H C cl fp => (ht s H C cl fp).pt) (fun s H C cl fp => (he s H C cl fp).pe) hs) fun σ H Q q => rd_lcO hvs q⟩
theorem ds_setLcO {i i1 : Nat} {y : Str} {py spos : Pos} {t : Tgt} {ft : DT} {fe : DX} {scope : Scope} {own : List (Str × Nat)} (hc : X.calm = true) (hN : X.N.Nodup) (hy : X.N[i]? = some y) (hyl : X.env.scope.names.lookup y = some .local)
    (hsw : swapsWith (.ListComp elt [⟨tg, iter, ifs, 0⟩] scope pos) (some (.Name y py)) spos.line X.env = pure true) (hi : PE X iter (tVar i1)) (ok : BlkOk X.N X.env.scope scope own)
    (hg : ∀ (s : Shared) (H : Hp) (C : Addr) (cl : List (Str × Addr)) (fp : List Addr), DG (X.blk s H scope (compEnvC scope cl C X.env) fp) tg t)
    (ht : ∀ (s : Shared) (H : Hp) (C : Addr) (cl : List (Str × Addr)) (fp : List Addr), DTl (X.blk s H scope (compEnvC scope cl C X.env) fp) W0 ifs ft)
    (he : ∀ (s : Shared) (H : Hp) (C : Addr) (cl : List (Str × Addr)) (fp : List Addr), DE (X.blk s H scope (compEnvC scope cl C X.env) fp) W0 elt fe) (hvs : ∀ j ∈ t.slots, j ∈ own.map (·.2) := by decide)
    (hs : ∀ x, foldedSetIterable iter X.env x = pure x := by intro _; rfl) : DSj X W (.Assign [.Name y py] (.ListComp elt [⟨tg, iter, ifs, 0⟩] scope pos) spos) (dSet i (dLcO i1 t ft fe (own.map (·.2)))) := by
  refine ⟨ps_imp (ps_setLc (g := RdG X.K t) (tt := RdT X.K W0 ft) (te := RdE X.K W0 fe) hc hN hy hyl hsw (pi_any hi) ok (fun s H C cl fp => (hg s H C cl fp).pg) (fun s H C cl fp => (ht s H C cl fp).pt) (fun s H C cl fp => (he s H C cl fp).pe) hs) fun D σ H q => ?_⟩
  obtain ⟨E, F, st, s, q⟩ := q
  refine rd_lcO hvs (Rd.part s q fun v F1 H1 st1 r s1 p1 h1 q1 => ?_)
  split at q1
  · rename_i st2 e
    obtain ⟨F2, s2, x2⟩ := asg_ok s1 h1 e
    exact q1 _ F2 H1 s2 x2
  · exact q1.elim
end
end Dl

namespace Dl
open PySem L2 PySem.Spec PyProof.Rows
variable [ExI]
/-! ### evaluation, as equations -/
section
variable {α β : Type} {f g : DS} {st st1 : DSt} {i j k n : Nat} {fa fb fc : DX} {ga gb : DA} {t u : DT}
@[simp ↓] theorem ev_bnd {f : DSt → Out α} {g : α → DSt → Out β} : bnd f g st = (match f st with | .ok a s => g a s | .exc x s => .exc x s | .bad => .bad) := rfl
@[simp ↓] theorem ev_toFl {f : DSt → Out α} {g : α → DSt → Fl} : toFl f g st = (match f st with | .ok a s => g a s | .exc x s => .exc x s | .bad => .bad) := rfl
@[simp ↓] theorem ev_seq : dSeq f g st = (match f st with | .nx s => g s | o => o) := rfl
@[simp ↓] theorem ev_nx : dNx st = .nx st := rfl
@[simp ↓] theorem ev_c {d : D} : dC d st = .ok (.val d) st := rfl
@[simp ↓] theorem ev_var : dVar i st = (match st[i]? with | some (some (.val d)) => .ok (.val d) st | some (some _) => .ok (.at i) st | _ => .bad) := rfl
@[simp] theorem ev_lookv {d : D} : look st (.val d) = some d := rfl
@[simp] theorem ev_lookt {xs : List D} : look st (.tmp xs) = some (.lst xs) := rfl
@[simp] theorem ev_looka : look st (.at i) = (match st[i]? with | some (some (.val d)) => some d | some (some (.own xs)) => some (.lst xs) | some (some (.bor xs)) => some (.lst xs) | _ => none) := rfl
@[simp ↓] theorem ev_by1 {op : D → Option R} {r : R} : by1 op r st = (match look st r with | some d => (match op d with | some r => .ok r st | none => .bad) | none => .bad) := rfl
@[simp ↓] theorem ev_by2 {op : D → D → Option R} {r r' : R} : by2 op r r' st = (match look st r, look st r' with | some d1, some d2 => (match op d1 d2 with | some r => .ok r st | none => .bad) | _, _ => .bad) := rfl
@[simp ↓] theorem ev_op1 {op : O1} : dOp1 op fa st = (bnd fa op) st := rfl
@[simp ↓] theorem ev_op2 {op : O2} : dOp2 op fa fb st = (bnd fa fun r1 => bnd fb fun r2 => op r1 r2) st := rfl
@[simp ↓] theorem ev_args {op : ON} : dArgs op ga st = (bnd ga op) st := rfl
@[simp ↓] theorem ev_on1 {op : D → Option R} {r : R} : on1 op [r] st = by1 op r st := rfl
@[simp ↓] theorem ev_on2 {op : D → D → Option R} {r r' : R} : on2 op [r, r'] st = by2 op r r' st := rfl
@[simp ↓] theorem ev_nil : dNil st = .ok [] st := rfl
@[simp ↓] theorem ev_cons : dCons fa ga st = (bnd fa fun r => bnd ga fun rs s => .ok (r :: rs) s) st := rfl
@[simp ↓] theorem ev_sub : dSub fa fb st = (dOp2 (by2 (int2 (fun _ _ => true) fun i j => .int (i - j))) fa fb) st := rfl
@[simp ↓] theorem ev_mul : dMul fa fb st = (dOp2 (by2 (int2 cMul fun i j => .int (i * j))) fa fb) st := rfl
@[simp ↓] theorem ev_fdiv : dFDiv fa fb st = (dOp2 (by2 (int2 cDiv fun i j => .int (i / j))) fa fb) st := rfl
@[simp ↓] theorem ev_mod : dMod fa fb st = (dOp2 (by2 (int2 cPos fun i j => .int (i % j))) fa fb) st := rfl
@[simp ↓] theorem ev_pow : dPow fa fb st = (dOp2 (by2 (int2 cPow fun i j => .int (i ^ j.toNat))) fa fb) st := rfl
@[simp ↓] theorem ev_neg : dNeg fa st = (dOp1 (by1 negD) fa) st := rfl
@[simp] theorem ev_negD {i : Int} : negD (.int i) = some (.val (.int (-i))) := rfl
@[simp ↓] theorem ev_ix : dIx fa fb st = (dOp2 (by2 ixD) fa fb) st := rfl
@[simp ↓] theorem ev_len : dLen ga st = (dArgs (on1 lenD) ga) st := rfl
@[simp ↓] theorem ev_list : dList ga st = (dArgs (on1 listD) ga) st := rfl
@[simp ↓] theorem ev_tuple : dTuple ga st = (dArgs (on1 tupleD) ga) st := rfl
@[simp ↓] theorem ev_int : dInt ga st = (dArgs (on1 intD) ga) st := rfl
@[simp ↓] theorem ev_isi {t : Ty5} : dIsi t ga st = (dArgs (isiON t) ga) st := rfl
@[simp ↓] theorem ev_isiON {t : Ty5} {r : R} {x : String} : isiON t [r, .val (.ty x)] st = if x = t.nm then by1 (isiD t) r st else .bad := rfl
@[simp] theorem ev_isiD {t : Ty5} {d : D} : isiD t d = (isiB d t).map fun b => .val (.bl b) := rfl
@[simp] theorem ev_nmb : Ty5.nm .bool = "bool" := rfl
@[simp] theorem ev_nmi : Ty5.nm .int = "int" := rfl
@[simp] theorem ev_nms : Ty5.nm .str = "str" := rfl
@[simp] theorem ev_nmt : Ty5.nm .tuple = "tuple" := rfl
@[simp] theorem ev_nml : Ty5.nm .list = "list" := rfl
@[simp] theorem ev_lenl {xs : List D} : lenD (.lst xs) = some (.val (.int xs.length)) := rfl
@[simp] theorem ev_lent {xs : List D} : lenD (.tup xs) = some (.val (.int xs.length)) := rfl
@[simp] theorem ev_listl {xs : List D} : listD (.lst xs) = some (.tmp xs) := rfl
@[simp] theorem ev_listt {xs : List D} : listD (.tup xs) = some (.tmp xs) := rfl
@[simp] theorem ev_tuplel {xs : List D} : tupleD (.lst xs) = some (.val (.tup xs)) := rfl
@[simp] theorem ev_tuplet {xs : List D} : tupleD (.tup xs) = some (.val (.tup xs)) := rfl
@[simp] theorem ev_inti {i : Int} : intD (.int i) = some (.val (.int i)) := rfl
@[simp] theorem ev_intb {b : Bool} : intD (.bl b) = some (.val (.int (if b then 1 else 0))) := rfl
@[simp] theorem ev_int2 {C : Int → Int → Bool} {g : Int → Int → D} {a b : Int} : int2 C g (.int a) (.int b) = if C a b then some (.val (g a b)) else none := rfl
@[simp] theorem ev_addi {a b : Int} : addD (.int a) (.int b) = some (.val (.int (a + b))) := rfl
@[simp] theorem ev_addl {xs ys : List D} : addD (.lst xs) (.lst ys) = if xs.length + ys.length ≤ lim then some (.tmp (xs ++ ys)) else none := rfl
@[simp] theorem ev_addt {xs ys : List D} : addD (.tup xs) (.tup ys) = if xs.length + ys.length ≤ lim then some (.val (.tup (xs ++ ys))) else none := rfl
@[simp] theorem ev_adds {x y : Str} : addD (.str x) (.str y) = if x.length + y.length ≤ lim then some (.val (.str (x ++ y))) else none := rfl
@[simp] theorem ev_ixl {xs : List D} {a : Int} : ixD (.lst xs) (.int a) = (atI xs a).map .val := rfl
@[simp] theorem ev_ixt {xs : List D} {a : Int} : ixD (.tup xs) (.int a) = (atI xs a).map .val := rfl
@[simp] theorem ev_atN {γ : Type} {xs : List γ} {j : Nat} : atI xs (j : Int) = xs[j]? := by
  cases h : xs[j]? with
  | some v => exact atI_nat h
  | none =>
    have hl : xs.length ≤ j := List.getElem?_eq_none_iff.mp h
    unfold atI ixN
    rw [if_pos (by omega), if_neg (by omega)]
    rfl
@[simp] theorem ev_at0 {γ : Type} {xs : List γ} : atI xs (0 : Int) = xs[0]? := ev_atN (j := 0)
@[simp] theorem ev_at1 {γ : Type} {xs : List γ} : atI xs (1 : Int) = xs[1]? := ev_atN (j := 1)
@[simp] theorem ev_at2 {γ : Type} {xs : List γ} : atI xs (2 : Int) = xs[2]? := ev_atN (j := 2)
@[simp] theorem ev_at3 {γ : Type} {xs : List γ} : atI xs (3 : Int) = xs[3]? := ev_atN (j := 3)
@[simp] theorem ev_at4 {γ : Type} {xs : List γ} : atI xs (4 : Int) = xs[4]? := ev_atN (j := 4)
@[simp] theorem ev_at5 {γ : Type} {xs : List γ} : atI xs (5 : Int) = xs[5]? := ev_atN (j := 5)
@[simp] theorem ev_at6 {γ : Type} {xs : List γ} : atI xs (6 : Int) = xs[6]? := ev_atN (j := 6)
@[simp] theorem ev_at7 {γ : Type} {xs : List γ} : atI xs (7 : Int) = xs[7]? := ev_atN (j := 7)
@[simp] theorem ev_at8 {γ : Type} {xs : List γ} : atI xs (8 : Int) = xs[8]? := ev_atN (j := 8)
@[simp] theorem ev_at9 {γ : Type} {xs : List γ} : atI xs (9 : Int) = xs[9]? := ev_atN (j := 9)
@[simp] theorem ev_at10 {γ : Type} {xs : List γ} : atI xs (10 : Int) = xs[10]? := ev_atN (j := 10)
@[simp] theorem ev_at11 {γ : Type} {xs : List γ} : atI xs (11 : Int) = xs[11]? := ev_atN (j := 11)
@[simp] theorem ev_at12 {γ : Type} {xs : List γ} : atI xs (12 : Int) = xs[12]? := ev_atN (j := 12)
theorem ixN_nat {m j : Nat} (h : j < m) : ixN m (j : Int) = some j := by
  unfold ixN
  rw [if_pos (by omega), if_pos (by omega)]
  simp
@[simp ↓] theorem ev_oLt {r r' : R} : oLt r r' st = by2 (int2 (fun _ _ => true) fun i j => .bl (decide (i < j))) r r' st := rfl
@[simp ↓] theorem ev_oLe {r r' : R} : oLe r r' st = by2 (int2 (fun _ _ => true) fun i j => .bl (decide (i ≤ j))) r r' st := rfl
@[simp ↓] theorem ev_oGt {r r' : R} : oGt r r' st = by2 (int2 (fun _ _ => true) fun i j => .bl (decide (j < i))) r r' st := rfl
@[simp ↓] theorem ev_oGe {r r' : R} : oGe r r' st = by2 (int2 (fun _ _ => true) fun i j => .bl (decide (j ≤ i))) r r' st := rfl
@[simp ↓] theorem ev_oEq {r r' : R} : oEq r r' st = by2 (eqD false) r r' st := rfl
@[simp ↓] theorem ev_oNe {r r' : R} : oNe r r' st = by2 (eqD true) r r' st := rfl
@[simp ↓] theorem ev_oIs {r r' : R} : oIs r r' st = by2 (isD false) r r' st := rfl
@[simp ↓] theorem ev_oIsNot {r r' : R} : oIsNot r r' st = by2 (isD true) r r' st := rfl
@[simp ↓] theorem ev_oIn {r r' : R} : oIn r r' st = by2 (inD false) r r' st := rfl
@[simp ↓] theorem ev_oNotIn {r r' : R} : oNotIn r r' st = by2 (inD true) r r' st := rfl
theorem shaped_int {a : Int} : SeqAt.shaped (.int a) = true := by simp [SeqAt.shaped, PyData.canLay0, PyData.depth]
theorem shaped_bl {a : Bool} : SeqAt.shaped (.bool a) = true := by simp [SeqAt.shaped, PyData.canLay0, PyData.depth]
@[simp] theorem ev_eqi {a b : Int} : eqD false (.int a) (.int b) = some (.val (.bl (a == b))) := by simp [eqD, toPy, shaped_int, PyData.eqv]
@[simp] theorem ev_nei {a b : Int} : eqD true (.int a) (.int b) = some (.val (.bl (!(a == b)))) := by simp [eqD, toPy, shaped_int, PyData.eqv]
@[simp] theorem ev_eqb {a b : Bool} : eqD false (.bl a) (.bl b) = some (.val (.bl (a == b))) := by simp [eqD, toPy, shaped_bl, PyData.eqv]
@[simp] theorem ev_neb {a b : Bool} : eqD true (.bl a) (.bl b) = some (.val (.bl (!(a == b)))) := by simp [eqD, toPy, shaped_bl, PyData.eqv]
@[simp] theorem ev_isb {n : Bool} {a b : Bool} : isD n (.bl a) (.bl b) = some (.val (.bl (if n then !decide (a = b) else decide (a = b)))) := rfl
@[simp ↓] theorem ev_if {f g : DS} : dIf t f g st = (toFl t fun k => if k then f else g) st := rfl
@[simp ↓] theorem ev_asB : asB fa st = (bnd fa fun r s => (match look s r with | some (.bl k) => .ok k s | _ => .bad)) st := rfl
@[simp ↓] theorem ev_and : tAndD t u st = (bnd t fun k => if k then u else fun s => .ok false s) st := rfl
@[simp ↓] theorem ev_or : tOrD t u st = (bnd t fun k => if k then (fun s => .ok true s) else u) st := rfl
@[simp ↓] theorem ev_not : tNotD t st = (bnd t fun k s => .ok (!k) s) st := rfl
@[simp ↓] theorem ev_tru : dTru fa st = (bnd fa fun r s => (match look s r with | some d => (match truD d with | some k => .ok k s | none => .bad) | none => .bad)) st := rfl
@[simp] theorem ev_trub {b : Bool} : truD (.bl b) = some b := rfl
@[simp] theorem ev_trul {xs : List D} : truD (.lst xs) = some (!xs.isEmpty) := rfl
@[simp] theorem ev_trut {xs : List D} : truD (.tup xs) = some (!xs.isEmpty) := rfl
@[simp ↓] theorem ev_andV : dAndV fa fb st = bnd fa (fun r s => (match look s r with | some (.bl k) => if k then fb s else .ok (.val (.bl false)) s | _ => .bad)) st := by
  simp only [dAndV, bnd]
  cases fa st with
  | ok r s =>
    simp only
    cases look s r with
    | none => rfl
    | some d => cases d with
      | bl k => cases k <;> rfl
      | _ => rfl
  | exc x s => rfl
  | bad => rfl
@[simp ↓] theorem ev_orV : dOrV fa fb st = bnd fa (fun r s => (match look s r with | some (.bl k) => if k then .ok (.val (.bl true)) s else fb s | _ => .bad)) st := by
  simp only [dOrV, bnd]
  cases fa st with
  | ok r s =>
    simp only
    cases look s r with
    | none => rfl
    | some d => cases d with
      | bl k => cases k <;> rfl
      | _ => rfl
  | exc x s => rfl
  | bad => rfl
@[simp ↓] theorem ev_notV : dNotV fa st = (bnd fa fun r s => (match look s r with | some (.bl k) => .ok (.val (.bl (!k))) s | _ => .bad)) st := rfl
@[simp ↓] theorem ev_ifE {t : DT} : dIfE t fa fb st = (bnd t fun k => if k then fa else fb) st := rfl
@[simp ↓] theorem ev_set : dSet i fa st = (toFl fa fun r s => (match asg i r s with | some s' => .nx s' | none => .bad)) st := rfl
@[simp] theorem ev_asgv {d : D} : asg i (.val d) st = if i < st.length then some (st.set i (some (.val d))) else none := rfl
@[simp] theorem ev_asgt {xs : List D} : asg i (.tmp xs) st = if i < st.length then some (st.set i (some (.own xs))) else none := rfl
@[simp] theorem ev_asga : asg i (.at j) st = if i < st.length then (match frz1 (.at j) st with | some (d, s') => some (s'.set i (some (.val d))) | none => none) else none := rfl
@[simp] theorem ev_frzv {d : D} : frz1 (.val d) st = some (d, st) := rfl
@[simp] theorem ev_frzt {xs : List D} : frz1 (.tmp xs) st = some (.lst xs, st) := rfl
@[simp] theorem ev_frza : frz1 (.at i) st = (match st[i]? with | some (some (.val d)) => some (d, st) | some (some (.own xs)) => some (.lst xs, st.set i (some (.val (.lst xs)))) | _ => none) := rfl
@[simp] theorem ev_frzs0 : frzs [] st = some ([], st) := rfl
@[simp] theorem ev_frzs1 {r : R} {rs : List R} : frzs (r :: rs) st = (match frz1 r st with | some (d, s1) => (match frzs rs s1 with | some (ds, s2) => some (d :: ds, s2) | none => none) | none => none) := rfl
@[simp ↓] theorem ev_drop : dDrop fa st = (toFl fa fun _ s => .nx s) st := rfl
@[simp ↓] theorem ev_ret : dRet fa st = (toFl fa fun r s => .rt r s) st := rfl
@[simp ↓] theorem ev_tup : dTup ga st = (bnd ga fun rs s => (match frzs rs s with | some (ds, s') => if ds.length ≤ lim then .ok (.val (.tup ds)) s' else .bad | none => .bad)) st := rfl
@[simp ↓] theorem ev_lst : dLst ga st = (bnd ga fun rs s => (match frzs rs s with | some (ds, s') => if ds.length ≤ lim then .ok (.tmp ds) s' else .bad | none => .bad)) st := rfl
theorem ev_lim : lim = 100000 := rfl
@[simp] theorem lim_0 : (0 ≤ lim) = True := by simp [ev_lim]
@[simp] theorem lim_s0 : (0 < lim) = True := by simp [ev_lim]
@[simp] theorem lim_1 : (1 ≤ lim) = True := by simp [ev_lim]
@[simp] theorem lim_s1 : (1 < lim) = True := by simp [ev_lim]
@[simp] theorem lim_2 : (2 ≤ lim) = True := by simp [ev_lim]
@[simp] theorem lim_s2 : (2 < lim) = True := by simp [ev_lim]
@[simp] theorem lim_3 : (3 ≤ lim) = True := by simp [ev_lim]
@[simp] theorem lim_s3 : (3 < lim) = True := by simp [ev_lim]
@[simp] theorem lim_4 : (4 ≤ lim) = True := by simp [ev_lim]
@[simp] theorem lim_s4 : (4 < lim) = True := by simp [ev_lim]
@[simp] theorem lim_5 : (5 ≤ lim) = True := by simp [ev_lim]
@[simp] theorem lim_s5 : (5 < lim) = True := by simp [ev_lim]
@[simp] theorem lim_6 : (6 ≤ lim) = True := by simp [ev_lim]
@[simp] theorem lim_s6 : (6 < lim) = True := by simp [ev_lim]
@[simp] theorem lim_7 : (7 ≤ lim) = True := by simp [ev_lim]
@[simp] theorem lim_s7 : (7 < lim) = True := by simp [ev_lim]
@[simp] theorem lim_8 : (8 ≤ lim) = True := by simp [ev_lim]
@[simp] theorem lim_s8 : (8 < lim) = True := by simp [ev_lim]
@[simp] theorem lim_9 : (9 ≤ lim) = True := by simp [ev_lim]
@[simp] theorem lim_s9 : (9 < lim) = True := by simp [ev_lim]
@[simp] theorem lim_10 : (10 ≤ lim) = True := by simp [ev_lim]
@[simp] theorem lim_s10 : (10 < lim) = True := by simp [ev_lim]
@[simp] theorem lim_11 : (11 ≤ lim) = True := by simp [ev_lim]
@[simp] theorem lim_s11 : (11 < lim) = True := by simp [ev_lim]
@[simp] theorem lim_12 : (12 ≤ lim) = True := by simp [ev_lim]
@[simp] theorem lim_s12 : (12 < lim) = True := by simp [ev_lim]
@[simp] theorem ev_getC : getC st k = (match st[k]? with | some (some (.own xs)) => some xs | some (some (.bor xs)) => some xs | _ => none) := rfl
@[simp] theorem ev_setC {ys : List D} : setC st k ys = (match st[k]? with | some (some (.own _)) => st.set k (some (.own ys)) | some (some (.bor _)) => st.set k (some (.bor ys)) | _ => st) := rfl
@[simp ↓] theorem ev_app : dApp k fa st = (match getC st k with | some _ => bnd fa (appOp k) st | none => .bad) := rfl
@[simp ↓] theorem ev_appOp {r : R} : appOp k r st = (match frz1 r st with | some (d, s1) => (match getC s1 k with | some xs => if xs.length < lim then .ok (.val .non) (setC s1 k (xs ++ [d])) else .bad | none => .bad) | none => .bad) := rfl
@[simp ↓] theorem ev_setIx : dSetIx k fa fb st = (toFl fb fun r s => (match getC s k with | some _ => toFl fa (fun ri => setOp k r ri) s | none => .bad)) st := rfl
@[simp ↓] theorem ev_setOp {r ri : R} : setOp k r ri st = (match frz1 r st with | some (d, s1) => (match getC s1 k, look s1 ri with | some xs, some (.int i) => (match ixN xs.length i with | some j => .nx (setC s1 k (xs.set j d)) | none => .bad) | _, _ => .bad) | none => .bad) := rfl
@[simp ↓] theorem ev_setT {t : Tgt} : dSetT t fa st = (toFl fa fun r s => (match look s r with | some (.tup ds) => (match asgT t (.tup ds) s with | some s' => .nx s' | none => .bad) | _ => .bad)) st := rfl
@[simp ↓] theorem ev_slice {fl fh : DSt → Out (Option Int)} : dSlice fa fl fh st = (bnd fa fun r => bnd fl fun lo => bnd fh fun hi => by1 (slD lo hi) r) st := rfl
@[simp ↓] theorem ev_nopart : dNoPart st = .ok none st := rfl
@[simp ↓] theorem ev_part : dPart fa st = (bnd fa fun r s => (match look s r with | some (.int i) => .ok (some i) s | _ => .bad)) st := rfl
@[simp ↓] theorem ev_call {f : FnD} {dds : List D} {bk : Option Nat} : dCall n f dds bk ga st = (bnd ga (callOp n f dds bk)) st := rfl
@[simp ↓] theorem ev_callOp0 {f : FnD} {dds : List D} {rs : List R} : callOp n f dds none rs st = if rs.length + dds.length = n then (match frzs rs st with | some (as, s1) => (match f ((as ++ dds).map .val) with | .ok r _ => .ok r.toR s1 | .exc x _ => .exc x s1 | .bad => .bad) | none => .bad) else .bad := rfl
@[simp ↓] theorem ev_callOp1 {f : FnD} {dds : List D} {rs : List R} : callOp n f dds (some k) rs st = if rs.length + dds.length = n then (match rs[k]? with | some (.at i) => (match frzs (rs.set k (.val .non)) st with | some (as, s1) => (match getC s1 i with | some xs => (match f (((as ++ dds).map Arg.val).set k (.own xs)) with | .ok r outs => (match outs[k]? with | some (some ys) => .ok r.toR (setC s1 i ys) | _ => .bad) | .exc x outs => (match outs[k]? with | some (some ys) => .exc x (setC s1 i ys) | _ => .bad) | .bad => .bad) | none => .bad) | none => .bad) | _ => .bad) else .bad := rfl
@[simp] theorem ev_toRv {d : D} : Ret.toR (.val d) = .val d := rfl
@[simp] theorem ev_toRn {xs : List D} : Ret.toR (.new xs) = .tmp xs := rfl
@[simp ↓] theorem ev_for {fi : DIt} {t : Tgt} {body : DS} : dFor fi t body st = (toFl fi fun xs => loopD t body xs) st := rfl
@[simp ↓] theorem ev_itSeq : itSeq fa st = (bnd fa fun r s => (match frz1 r s with | some (.lst xs, s') => .ok xs s' | some (.tup xs, s') => .ok xs s' | some (.str z, s') => .ok (chars z) s' | _ => .bad)) st := rfl
theorem ev_itRng1 : itRng1 ga = bnd ga fun rs s => (match rs with | [r] => (match look s r with | some (.int n) => if smallI n then .ok (rngD 0 n.toNat) s else .bad | _ => .bad) | _ => .bad) := rfl
theorem ev_itRng2 : itRng2 ga = bnd ga fun rs s => (match rs with | [r, r'] => (match look s r, look s r' with | some (.int m), some (.int n) => if smallI m && smallI n then .ok (rngD m (n - m).toNat) s else .bad | _, _ => .bad) | _ => .bad) := rfl
@[simp] theorem ev_asgTn {d : D} : asgT (.nm i) d st = if i < st.length then some (st.set i (some (.val d))) else none := rfl
@[simp] theorem ev_asgTt {is : List Nat} {ds : List D} : asgT (.tp is) (.tup ds) st = asgAll is ds st := rfl
@[simp] theorem ev_asgAll0 : asgAll [] [] st = some st := rfl
@[simp] theorem ev_asgAll1 {is : List Nat} {d : D} {ds : List D} : asgAll (i :: is) (d :: ds) st = if i < st.length then asgAll is ds (st.set i (some (.val d))) else none := rfl
theorem ev_lc {fi : DIt} {t : Tgt} {ft : DT} {fe : DX} {vs : List Nat} : dLc fi t ft fe vs = bnd fi fun xs => compD t ft fe vs xs [] := rfl
@[simp ↓] theorem ev_iteF {p : Prop} [Decidable p] {f g : DS} : (if p then f else g) st = if p then f st else g st := by split <;> rfl
@[simp ↓] theorem ev_iteO {p : Prop} [Decidable p] {f g : DSt → Out α} : (if p then f else g) st = if p then f st else g st := by split <;> rfl
@[simp] theorem ite_okb {p : Prop} [Decidable p] {a b : Bool} : (if p then Out.ok (R.val (.bl a)) st else Out.ok (R.val (.bl b)) st) = Out.ok (R.val (.bl (if p then a else b))) st := by split <;> rfl
@[simp] theorem ite_okB {p : Prop} [Decidable p] {a b : Bool} : (if p then Out.ok a st else Out.ok b st) = Out.ok (if p then a else b) st := by split <;> rfl
@[simp] theorem ite_oki {p : Prop} [Decidable p] {a b : Int} : (if p then Out.ok (R.val (.int a)) st else Out.ok (R.val (.int b)) st) = Out.ok (R.val (.int (if p then a else b))) st := by split <;> rfl
@[simp ↓] theorem ev_chain {g h : Int → Int → Bool} : dChain g h fa fb fc st = bnd fa (fun r1 => bnd fb fun r2 st => match look st r1, look st r2 with | some (.int i), some (.int j) => if g i j then bnd fc (fun r3 st => match look st r3 with | some (.int k) => .ok (.val (.bl (h j k))) st | _ => .bad) st else .ok (.val (.bl false)) st | _, _ => .bad) st := rfl
@[simp ↓] theorem ev_oLtA {r r' : R} : oLtA r r' st = by2 ltA r r' st := rfl
@[simp ↓] theorem ev_oGtA {r r' : R} : oGtA r r' st = by2 gtA r r' st := rfl
@[simp] theorem ev_ltA {a b : Int} : ltA (.int a) (.int b) = some (.val (.bl (decide (a < b)))) := rfl
@[simp] theorem ev_gtA {a b : Int} : gtA (.int a) (.int b) = some (.val (.bl (decide (b < a)))) := rfl
theorem intsOf_map : ∀ ns : List Int, intsOf (ns.map D.int) = some ns
  | [] => rfl
  | n :: ns => by simp only [List.map_cons, intsOf, intsOf_map ns]; rfl
@[simp] theorem ev_ltT {ns ms : List Int} : ltA (.tup (ns.map .int)) (.tup (ms.map .int)) = some (.val (.bl (HT.lexLt ns ms))) := by simp only [ltA, intsOf_map]
@[simp] theorem ev_gtT {ns ms : List Int} : gtA (.tup (ns.map .int)) (.tup (ms.map .int)) = some (.val (.bl (HT.lexLt ms ns))) := by simp only [gtA, ltA, intsOf_map]
@[simp ↓] theorem ev_Fz {ks : List Nat} : dFz ks f st = (match f st with | .nx s => .nx (fzL ks s) | o => o) := rfl
@[simp] theorem ev_fz0 : fzL [] st = st := rfl
@[simp] theorem ev_fz1 {ks : List Nat} : fzL (i :: ks) st = fzL ks (match st[i]? with | some (some (.own xs)) => st.set i (some (.val (.lst xs))) | _ => st) := rfl
@[simp ↓] theorem ev_cllO {c : Str} {f : FnD} {fo : DX} : dCallO c f fo ga st = bnd fo (fun r st => match objOf c r st with | some _ => bnd ga (fun rs st2 => match objOf c r st2 with | some _ => callY f (r :: rs) st2 | none => .bad) st | none => .bad) st := rfl
@[simp ↓] theorem ev_ccon {c : Str} {d : D} {fo : DX} : dCCon c d fo st = bnd fo (fun r st => match look st r with | some (.gl x) => if x = c then .ok (.val d) st else .bad | _ => .bad) st := rfl
@[simp ↓] theorem ev_ins : dIns k fa fb st = (match getC st k with | some _ => bnd fa (fun r1 => bnd fb fun r2 => insOp k r1 r2) st | none => .bad) := rfl
@[simp ↓] theorem ev_rev : dRev k st = (match getC st k with | some xs => .ok (.val .non) (setC st k xs.reverse) | none => .bad) := rfl
@[simp] theorem ev_cllYB {b : Nat} {f : FnD} {rs : List R} : callYB b f rs st = (match rs[b]? with | some (.at _) => callOp rs.length f [] (some b) rs st | _ => callY f rs st) := rfl
@[simp ↓] theorem ev_methB {b : Nat} {c m : Str} {f : FnD} {fo : DX} : dMethB b c m f fo ga st = bnd fo (fun r st => match objOf c r st with | some (ns, _) => if ns.contains m then .bad else bnd ga (fun rs => callYB b f (r :: rs)) st | none => .bad) st := rfl
@[simp ↓] theorem ev_cmethB {b : Nat} {c : Str} {f : FnD} {fo : DX} : dCMethB b c f fo ga st = bnd fo (fun r st => match r with | .val (.gl x) => if x = c then bnd ga (fun rs => callYB b f (r :: rs)) st else .bad | _ => .bad) st := rfl
@[simp ↓] theorem ev_cllB {b : Nat} {f : FnD} {dds : List D} : dCallB n f dds b ga st = bnd ga (callOpB n f dds b) st := rfl
@[simp] theorem ev_cllOpB {b : Nat} {f : FnD} {dds : List D} {rs : List R} : callOpB n f dds b rs st = (match rs[b]? with | some (.at _) => callOp n f dds (some b) rs st | _ => callOp n f dds none rs st) := rfl
@[simp ↓] theorem ev_try {tb : List (Str × Bool)} {fb fs : DS} : dTry tb i fb fs st = (match fb st with | .exc x st1 => (match tb.lookup x.cls with | some true => if exFree st1 && decide (i < st1.length) then outE i (fs (st1.set i (some (.exc x)))) else .bad | some false => .exc x st1 | none => .bad) | o => o) := rfl
@[simp ↓] theorem ev_exF {c f : Str} : dExF i c f st = (match st[i]? with | some (some (.exc x)) => if x.cls = c then (match fldOf x.ns x.ds f with | some d => .ok (.val d) st | none => .bad) else .bad | _ => .bad) := rfl
@[simp ↓] theorem ev_exIs {c : Str} {b : Bool} : dExIs i c b st = (match st[i]? with | some (some (.exc x)) => if x.cls = c ∧ x.ns.length ≠ 0 then .ok (.val (.bl b)) st else .bad | _ => .bad) := rfl
@[simp] theorem ev_outE1 : outE i (.nx st) = if exFree (st.set i none) then .nx (st.set i none) else .bad := rfl
@[simp] theorem ev_outE2 {d : D} : outE i (.rt (.val d) st) = if exFree (st.set i none) then .rt (.val d) (st.set i none) else .bad := rfl
@[simp] theorem ev_outE3 {xs : List D} : outE i (.rt (.tmp xs) st) = if exFree (st.set i none) then .rt (.tmp xs) (st.set i none) else .bad := rfl
@[simp] theorem ev_exFree0 : exFree [] = true := rfl
@[simp] theorem ev_exFree1 : exFree (none :: st) = exFree st := rfl
@[simp] theorem ev_exFree2 {d : D} : exFree (some (.val d) :: st) = exFree st := rfl
@[simp] theorem ev_exFree3 {xs : List D} : exFree (some (.own xs) :: st) = exFree st := rfl
@[simp] theorem ev_exFree4 {xs : List D} : exFree (some (.bor xs) :: st) = exFree st := rfl
@[simp ↓] theorem ev_smeth {c : Str} {f : FnD} {fo : DX} : dSMeth c f fo ga st = bnd fo (fun r st => match r with | .val (.gl x) => if x = c then bnd ga (callY f) st else .bad | _ => .bad) st := rfl
@[simp] theorem ev_yes : tYesD st = .ok true st := rfl
end
theorem small_lt {n : Int} (h1 : -1000000 ≤ n) (h2 : n ≤ 1000000) : smallI n = true := by simp [smallI]; omega
theorem rngD_len (lo : Int) (n : Nat) : (rngD lo n).length = n := by simp [rngD]
theorem rngD_get {lo : Int} {n i : Nat} (h : i < (rngD lo n).length) : (rngD lo n)[i] = .int (lo + i) := by simp [rngD]
theorem rng1_eq {fa : DX} {st s : DSt} {r : R} {n : Int} (h : fa st = .ok r s) (hl : look s r = some (.int n)) (hs : smallI n = true) : itRng1 (dCons fa dNil) st = .ok (rngD 0 n.toNat) s := by
  have e : dCons fa dNil st = .ok [r] s := by rw [ev_cons, ev_bnd, h]; rfl
  rw [ev_itRng1, ev_bnd, e]
  simp only [hl, hs, if_true]
theorem rng2_eq {fa fb : DX} {st s s' : DSt} {r r' : R} {m n : Int} (h : fa st = .ok r s) (h' : fb s = .ok r' s') (hl : look s' r = some (.int m)) (hl' : look s' r' = some (.int n)) (hs : smallI m = true) (hs' : smallI n = true) : itRng2 (dCons fa (dCons fb dNil)) st = .ok (rngD m (n - m).toNat) s' := by
  have e : dCons fa (dCons fb dNil) st = .ok [r, r'] s' := by rw [ev_cons, ev_bnd, h]; simp only [ev_cons, ev_bnd, h', ev_nil]
  rw [ev_itRng2, ev_bnd, e]
  simp only [hl, hl', hs, hs', Bool.and_self, if_true]
theorem small_len {α : Type} {xs : List α} (hl : xs.length ≤ lim) : smallI (xs.length : Int) = true := small_lt (by omega) (by have : lim = 100000 := rfl; omega)
theorem for_rng1 {t : Tgt} {body : DS} {fa : DX} {st s : DSt} {r : R} {n : Int} {o : Fl} (h : fa st = .ok r s) (hl : look s r = some (.int n)) (hs : smallI n = true) (e : loopD t body (rngD 0 n.toNat) s = o) : dFor (itRng1 (dCons fa dNil)) t body st = o := by
  rw [ev_for, ev_toFl, rng1_eq h hl hs]
  exact e
theorem for_rng2 {t : Tgt} {body : DS} {fa fb : DX} {st s s' : DSt} {r r' : R} {m n : Int} {o : Fl} (h : fa st = .ok r s) (h' : fb s = .ok r' s') (hl : look s' r = some (.int m)) (hl' : look s' r' = some (.int n)) (hs : smallI m = true) (hs' : smallI n = true) (e : loopD t body (rngD m (n - m).toNat) s' = o) : dFor (itRng2 (dCons fa (dCons fb dNil))) t body st = o := by
  rw [ev_for, ev_toFl, rng2_eq h h' hl hl' hs hs']
  exact e
section
variable {st : DSt} {ga : DA}
@[simp ↓] theorem ev_itEnum : itEnum ga st = (bnd ga fun rs st => (match frzs rs st with | some ([.lst xs], st') => .ok (enumL xs) st' | some ([.tup xs], st') => .ok (enumL xs) st' | _ => .bad)) st := rfl
@[simp ↓] theorem ev_itZip : itZip ga st = (bnd ga fun rs st => (match frzs rs st with | some ([.lst xs, .lst ys], st') => .ok (zipL xs ys) st' | some ([.tup xs, .tup ys], st') => .ok (zipL xs ys) st' | _ => .bad)) st := rfl
theorem ev_lcO {i : Nat} {t : Tgt} {ft : DT} {fe : DX} {vs : List Nat} {st : DSt} : dLcO i t ft fe vs st = (match getC st i with | some xs => compO i xs.length t ft fe vs xs.length [] st | none => .bad) := rfl
theorem ev_lc2 {fi fi1 : DIt} {t t1 : Tgt} {ft ft1 : DT} {fe : DX} {vs vs1 : List Nat} : dLc2 fi t ft fi1 t1 ft1 fe vs vs1 = bnd fi fun xs => comp2D t ft fi1 t1 ft1 fe vs vs1 xs [] := rfl
end
/-! ### comprehensions that leave the state alone -/
/-- what a turn of a comprehension gives: the item, or nothing -/
theorem comp_pure {t : Tgt} {ft : DT} {fe : DX} {vs : List Nat} {st : DSt} (g : D → Option D) : ∀ (xs acc : List D), acc.length + xs.length ≤ lim →
    (∀ x ∈ xs, ∃ st1, asgT t x (wipeD st vs) = some st1 ∧ ((∃ y, g x = some y ∧ ft st1 = .ok true st1 ∧ (fe st1 = .ok (.val y) st1)) ∨ (g x = none ∧ ft st1 = .ok false st1)) ∧ unwipe st st1 vs = st) →
    compD t ft fe vs xs acc st = .ok (.tmp (acc ++ xs.filterMap g)) st
  | [], acc, _, _ => by simp [compD]
  | x :: xs, acc, hl, h => by
    obtain ⟨st1, h1, h2, h3⟩ := h x (by simp)
    simp only [List.length_cons] at hl
    rcases h2 with ⟨y, g1, f1, e1⟩ | ⟨g1, f1⟩
    · have ih := comp_pure (t := t) (ft := ft) (fe := fe) (vs := vs) (st := st) g xs (acc ++ [y]) (by have : lim = 100000 := rfl; simp; omega) fun z hz => h z (by simp [hz])
      simp only [compD, h1, f1, e1, frz1, h3]
      rw [if_pos (by omega), ih]
      simp [g1]
    · have ih := comp_pure (t := t) (ft := ft) (fe := fe) (vs := vs) (st := st) g xs acc (by omega) fun z hz => h z (by simp [hz])
      simp only [compD, h1, f1, h3]
      rw [ih]
      simp [g1]
theorem lc_pure {fi : DIt} {t : Tgt} {ft : DT} {fe : DX} {vs : List Nat} {st0 st : DSt} {xs : List D} (g : D → Option D) (hi : fi st0 = .ok xs st) (hl : xs.length ≤ lim)
    (h : ∀ x ∈ xs, ∃ st1, asgT t x (wipeD st vs) = some st1 ∧ ((∃ y, g x = some y ∧ ft st1 = .ok true st1 ∧ (fe st1 = .ok (.val y) st1)) ∨ (g x = none ∧ ft st1 = .ok false st1)) ∧ unwipe st st1 vs = st) :
    dLc fi t ft fe vs st0 = .ok (.tmp (xs.filterMap g)) st := by
  rw [ev_lc, ev_bnd, hi]
  exact (comp_pure g xs [] (by simpa using hl) h).trans (by simp)
/-- each item is taken -/
theorem lc_map {fi : DIt} {t : Tgt} {fe : DX} {vs : List Nat} {st0 st : DSt} {xs : List D} (g : D → D) (hi : fi st0 = .ok xs st) (hl : xs.length ≤ lim)
    (h : ∀ x ∈ xs, ∃ st1, asgT t x (wipeD st vs) = some st1 ∧ fe st1 = .ok (.val (g x)) st1 ∧ unwipe st st1 vs = st) :
    dLc fi t tYesD fe vs st0 = .ok (.tmp (xs.map g)) st := by
  rw [lc_pure (g := fun x => some (g x)) hi hl fun x hx => ?_]
  · simp
  · obtain ⟨st1, h1, h2, h3⟩ := h x hx
    exact ⟨st1, h1, .inl ⟨_, rfl, rfl, h2⟩, h3⟩
/-- the items themselves, some of them -/
theorem lc_filter {fi : DIt} {t : Tgt} {ft : DT} {fe : DX} {vs : List Nat} {st0 st : DSt} {xs : List D} (g : D → D) (p : D → Bool) (hi : fi st0 = .ok xs st) (hl : xs.length ≤ lim)
    (h : ∀ x ∈ xs, ∃ st1, asgT t x (wipeD st vs) = some st1 ∧ ft st1 = .ok (p x) st1 ∧ (p x = true → fe st1 = .ok (.val (g x)) st1) ∧ unwipe st st1 vs = st) :
    dLc fi t ft fe vs st0 = .ok (.tmp ((xs.filter p).map g)) st := by
  rw [lc_pure (g := fun x => if p x then some (g x) else none) hi hl fun x hx => ?_]
  · have : xs.filterMap (fun x => if p x then some (g x) else none) = (xs.filter p).map g := by
      clear hi hl h
      induction xs with
      | nil => rfl
      | cons x xs ih =>
        cases e : p x <;> simp [e, ih]
    rw [this]
  · obtain ⟨st1, h1, h2, h3, h4⟩ := h x hx
    refine ⟨st1, h1, ?_, h4⟩
    cases e : p x
    · exact .inr ⟨by simp, by rw [← e]; exact h2⟩
    · exact .inl ⟨g x, by simp, by rw [← e]; exact h2, h3 e⟩
theorem turns_pure {t : Tgt} {ft : DT} {fe : DX} {vs : List Nat} {st : DSt} (g : D → Option D) : ∀ (xs acc : List D), acc.length + xs.length ≤ lim →
    (∀ x ∈ xs, ∃ st1, asgT t x (wipeD st vs) = some st1 ∧ ((∃ y, g x = some y ∧ ft st1 = .ok true st1 ∧ (fe st1 = .ok (.val y) st1)) ∨ (g x = none ∧ ft st1 = .ok false st1)) ∧ unwipe st st1 vs = st) →
    turnsD t ft fe vs xs acc st = some (acc ++ xs.filterMap g, st)
  | [], acc, _, _ => by simp [turnsD]
  | x :: xs, acc, hl, h => by
    obtain ⟨st1, h1, h2, h3⟩ := h x (by simp)
    simp only [List.length_cons] at hl
    rcases h2 with ⟨y, g1, f1, e1⟩ | ⟨g1, f1⟩
    · have ih := turns_pure (t := t) (ft := ft) (fe := fe) (vs := vs) (st := st) g xs (acc ++ [y]) (by have : lim = 100000 := rfl; simp; omega) fun z hz => h z (by simp [hz])
      have e : turnD t ft fe vs x acc st = some (acc ++ [y], st) := by
        simp only [turnD, h1, f1, e1, frz1, h3]
        rw [if_pos (by omega)]
      simp only [turnsD, e]
      rw [ih]
      simp [g1]
    · have ih := turns_pure (t := t) (ft := ft) (fe := fe) (vs := vs) (st := st) g xs acc (by omega) fun z hz => h z (by simp [hz])
      have e : turnD t ft fe vs x acc st = some (acc, st) := by simp only [turnD, h1, f1, h3]
      simp only [turnsD, e]
      rw [ih]
      simp [g1]
/-! ### defs -/
theorem run_rt {n : Nat} {body : DS} {args : List Arg} {st : DSt} {r : R} {ret : Ret} {outs : List (Option (List D))} (h : body (startD args n) = .rt r st) (h1 : retOf r st = some ret) (h2 : outsOf args st = some outs) : runD n body args = .ok ret outs := by
  unfold runD
  rw [h]
  simp only [h1, h2]
theorem run_nx {n : Nat} {body : DS} {args : List Arg} {st : DSt} {outs : List (Option (List D))} (h : body (startD args n) = .nx st) (h2 : outsOf args st = some outs) : runD n body args = .ok (.val .non) outs := by
  unfold runD
  rw [h]
  simp only [h2]
theorem run_exc {n : Nat} {body : DS} {args : List Arg} {st : DSt} {x : Exn} {outs : List (Option (List D))} (h : body (startD args n) = .exc x st) (h2 : outsOf args st = some outs) : runD n body args = .exc x outs := by
  unfold runD
  rw [h]
  simp only [h2]
theorem seq_nx {f g : DS} {st s1 : DSt} (h : f st = .nx s1) : dSeq f g st = g s1 := by unfold dSeq; rw [h]
theorem seq_rt {f g : DS} {st s1 : DSt} {r : R} (h : f st = .rt r s1) : dSeq f g st = .rt r s1 := by unfold dSeq; rw [h]
theorem seq_exc {f g : DS} {st s1 : DSt} {x : Exn} (h : f st = .exc x s1) : dSeq f g st = .exc x s1 := by unfold dSeq; rw [h]
theorem ret_eq {fa : DX} {st s : DSt} {r : R} (h : fa st = .ok r s) : dRet fa st = .rt r s := by rw [ev_ret, ev_toFl, h]
theorem set_eq {i : Nat} {fa : DX} {st s s' : DSt} {r : R} (h : fa st = .ok r s) (e : asg i r s = some s') : dSet i fa st = .nx s' := by rw [ev_set, ev_toFl, h]; simp only [e]
theorem set_tmp {i : Nat} {fa : DX} {st s : DSt} {xs : List D} (h : fa st = .ok (.tmp xs) s) (hi : i < s.length) : dSet i fa st = .nx (s.set i (some (.own xs))) := set_eq h (by rw [ev_asgt, if_pos hi])
theorem set_val {i : Nat} {fa : DX} {st s : DSt} {d : D} (h : fa st = .ok (.val d) s) (hi : i < s.length) : dSet i fa st = .nx (s.set i (some (.val d))) := set_eq h (by rw [ev_asgv, if_pos hi])
theorem if_t {t : DT} {f g : DS} {st s : DSt} (h : t st = .ok true s) : dIf t f g st = f s := by rw [ev_if, ev_toFl, h]; rfl
theorem if_f {t : DT} {f g : DS} {st s : DSt} (h : t st = .ok false s) : dIf t f g st = g s := by rw [ev_if, ev_toFl, h]; rfl
theorem for_eq {fi : DIt} {t : Tgt} {body : DS} {st s : DSt} {xs : List D} {o : Fl} (h : fi st = .ok xs s) (e : loopD t body xs s = o) : dFor fi t body st = o := by rw [ev_for, ev_toFl, h]; exact e
/-! ### loops -/
theorem loop_nx {t : Tgt} {body : DS} : ∀ (xs : List D) (I : Nat → DSt → Prop) (st : DSt), I 0 st → (∀ i (hi : i < xs.length) s, I i s → ∃ s1 s2, asgT t xs[i] s = some s1 ∧ (body s1 = .nx s2 ∨ body s1 = .ct s2) ∧ I (i + 1) s2) → ∃ s, loopD t body xs st = .nx s ∧ I xs.length s
  | [], I, st, h0, hs => ⟨st, rfl, h0⟩
  | x :: xs, I, st, h0, hs => by
    obtain ⟨s1, s2, h1, h2, h3⟩ := hs 0 (by simp) st h0
    obtain ⟨s, e, hI⟩ := loop_nx xs (fun i => I (i + 1)) s2 h3 fun i hi s hI => hs (i + 1) (by simpa using hi) s hI
    refine ⟨s, ?_, hI⟩
    have h1' : asgT t x st = some s1 := h1
    simp only [loopD, h1']
    rcases h2 with h2 | h2
    · rw [h2]
      exact e
    · rw [h2]
      exact e
end Dl

namespace Dl
open PySem L2 PySem.Spec PyProof.Rows
variable [ExI]
/-! ### equality of data, as a function -/
/-- data of depth at most n -/
def Gd : Nat → D → Prop
  | _, .non => True
  | _, .bl _ => True
  | _, .int _ => True
  | _, .str s => PyData.strOk s = true
  | n + 1, .tup xs => ∀ x ∈ xs, Gd n x
  | n + 1, .lst xs => ∀ x ∈ xs, Gd n x
  | _, _ => False
mutual
def deq : D → D → Bool
  | .non, .non => true
  | .bl a, .bl b => a == b
  | .bl a, .int j => (if a then 1 else 0) == j
  | .int i, .bl b => i == (if b then 1 else 0)
  | .int i, .int j => i == j
  | .str x, .str y => x == y
  | .lst xs, .lst ys => deqL xs ys
  | .tup xs, .tup ys => deqL xs ys
  | _, _ => false
def deqL : List D → List D → Bool
  | [], [] => true
  | x :: xs, y :: ys => deq x y && deqL xs ys
  | _, _ => false
end
section
variable {a b : Int} {x y : Str} {k l : Bool} {xs ys : List D} {n : Nat}
@[simp] theorem gd_non : Gd n .non = True := by cases n <;> rfl
@[simp] theorem gd_bl : Gd n (.bl k) = True := by cases n <;> rfl
@[simp] theorem gd_int : Gd n (.int a) = True := by cases n <;> rfl
@[simp] theorem gd_str : Gd n (.str x) = (PyData.strOk x = true) := by cases n <;> rfl
@[simp] theorem gd_tup : Gd (n + 1) (.tup xs) = ∀ x ∈ xs, Gd n x := rfl
@[simp] theorem gd_lst : Gd (n + 1) (.lst xs) = ∀ x ∈ xs, Gd n x := rfl
@[simp] theorem deq_non : deq .non .non = true := by simp [deq]
@[simp] theorem deq_bl : deq (.bl k) (.bl l) = (k == l) := by simp [deq]
@[simp] theorem deq_int : deq (.int a) (.int b) = (a == b) := by simp [deq]
@[simp] theorem deq_str : deq (.str x) (.str y) = (x == y) := by simp [deq]
@[simp] theorem deq_lst : deq (.lst xs) (.lst ys) = deqL xs ys := by simp [deq]
@[simp] theorem deq_tup : deq (.tup xs) (.tup ys) = deqL xs ys := by simp [deq]
@[simp] theorem deq_lt : deq (.lst xs) (.tup ys) = false := by simp [deq]
@[simp] theorem deq_tl : deq (.tup xs) (.lst ys) = false := by simp [deq]
@[simp] theorem deq_ni : deq .non (.int a) = false := by simp [deq]
@[simp] theorem deq_in : deq (.int a) .non = false := by simp [deq]
@[simp] theorem deq_nt : deq .non (.tup xs) = false := by simp [deq]
@[simp] theorem deq_tn : deq (.tup xs) .non = false := by simp [deq]
@[simp] theorem deq_nl : deq .non (.lst xs) = false := by simp [deq]
@[simp] theorem deq_ln : deq (.lst xs) .non = false := by simp [deq]
@[simp] theorem deq_ns : deq .non (.str x) = false := by simp [deq]
@[simp] theorem deq_sn : deq (.str x) .non = false := by simp [deq]
@[simp] theorem deq_si : deq (.str x) (.int a) = false := by simp [deq]
@[simp] theorem deq_is : deq (.int a) (.str x) = false := by simp [deq]
@[simp] theorem deq_st : deq (.str x) (.tup xs) = false := by simp [deq]
@[simp] theorem deq_ts : deq (.tup xs) (.str x) = false := by simp [deq]
@[simp] theorem deq_sl : deq (.str x) (.lst xs) = false := by simp [deq]
@[simp] theorem deq_ls : deq (.lst xs) (.str x) = false := by simp [deq]
@[simp] theorem deq_it : deq (.int a) (.tup xs) = false := by simp [deq]
@[simp] theorem deq_ti : deq (.tup xs) (.int a) = false := by simp [deq]
@[simp] theorem deq_il : deq (.int a) (.lst xs) = false := by simp [deq]
@[simp] theorem deq_li : deq (.lst xs) (.int a) = false := by simp [deq]
@[simp] theorem deqL_nil : deqL [] [] = true := by simp [deqL]
@[simp] theorem deqL_cons {u v : D} : deqL (u :: xs) (v :: ys) = (deq u v && deqL xs ys) := by simp [deqL]
@[simp] theorem deqL_nc {v : D} : deqL [] (v :: ys) = false := by simp [deqL]
@[simp] theorem deqL_cn {v : D} : deqL (v :: ys) [] = false := by simp [deqL]
end
/-- encoded lists -/
theorem deqL_map {α : Type} [BEq α] {f g : α → D} (h : ∀ a b, deq (f a) (g b) = (a == b)) : ∀ as bs : List α, deqL (as.map f) (bs.map g) = (as == bs)
  | [], [] => by simp [deqL]
  | a :: as, [] => by simp [deqL]
  | [], b :: bs => by simp [deqL]
  | a :: as, b :: bs => by
    have : (a :: as == b :: bs) = ((a == b) && (as == bs)) := rfl
    simp only [List.map_cons, deqL_cons, h, this, deqL_map h as bs]
theorem deqL_map' {α β : Type} {f : α → D} {g : β → D} {r : α → β → Bool} (h : ∀ a b, deq (f a) (g b) = r a b) : ∀ (as : List α) (bs : List β), deqL (as.map f) (bs.map g) = (as.length == bs.length && (as.zip bs).all fun p => r p.1 p.2)
  | [], [] => by simp [deqL]
  | a :: as, [] => by simp [deqL]
  | [], b :: bs => by simp [deqL]
  | a :: as, b :: bs => by
    simp only [List.map_cons, deqL_cons, h, deqL_map' h as bs, List.length_cons, List.zip_cons_cons, List.all_cons]
    cases r a b <;> simp
@[simp] theorem deqL_ints (as bs : List Int) : deqL (as.map D.int) (bs.map D.int) = (as == bs) := deqL_map (fun a b => by simp) as bs
@[simp] theorem deqL_strs (as bs : List Str) : deqL (as.map D.str) (bs.map D.str) = (as == bs) := deqL_map (fun a b => by simp) as bs
@[simp] theorem deqL_nats (as bs : List Nat) : deqL (as.map fun n : Nat => D.int (n : Int)) (bs.map fun n : Nat => D.int (n : Int)) = (as == bs) := deqL_map (fun a b => by
  rw [deq_int, Bool.eq_iff_iff]; simp; exact Int.ofNat_inj) as bs
mutual
theorem deq_eqv : ∀ (x y : D) {p q : PyData}, toPy x = some p → toPy y = some q → deq x y = PyData.eqv p q
  | .tup xs, .tup ys, p, q, h, g => by
    simp only [toPy, Option.map_eq_some_iff] at h g
    obtain ⟨ps, h1, rfl⟩ := h
    obtain ⟨qs, g1, rfl⟩ := g
    simp only [deq, PyData.eqv]
    exact deqL_eqv xs ys h1 g1
  | .lst xs, .lst ys, p, q, h, g => by
    simp only [toPy, Option.map_eq_some_iff] at h g
    obtain ⟨ps, h1, rfl⟩ := h
    obtain ⟨qs, g1, rfl⟩ := g
    simp only [deq, PyData.eqv]
    exact deqL_eqv xs ys h1 g1
  | .non, y, p, q, h, g => by
    cases h
    cases y <;> simp [toPy] at g <;> first | (subst g; simp [deq, PyData.eqv]; done) | (obtain ⟨_, _, rfl⟩ := g; simp [deq, PyData.eqv])
  | .bl _, y, p, q, h, g => by
    cases h
    cases y <;> simp [toPy] at g <;> first | (subst g; simp [deq, PyData.eqv]; done) | (obtain ⟨_, _, rfl⟩ := g; simp [deq, PyData.eqv])
  | .int _, y, p, q, h, g => by
    cases h
    cases y <;> simp [toPy] at g <;> first | (subst g; simp [deq, PyData.eqv]; done) | (obtain ⟨_, _, rfl⟩ := g; simp [deq, PyData.eqv])
  | .str _, y, p, q, h, g => by
    cases h
    cases y <;> simp [toPy] at g <;> first | (subst g; simp [deq, PyData.eqv]; done) | (obtain ⟨_, _, rfl⟩ := g; simp [deq, PyData.eqv])
  | .tup xs, .non, p, q, h, g => by
    simp only [toPy, Option.map_eq_some_iff] at h; obtain ⟨ps, h1, rfl⟩ := h; cases g; simp [deq, PyData.eqv]
  | .tup xs, .bl _, p, q, h, g => by
    simp only [toPy, Option.map_eq_some_iff] at h; obtain ⟨ps, h1, rfl⟩ := h; cases g; simp [deq, PyData.eqv]
  | .tup xs, .int _, p, q, h, g => by
    simp only [toPy, Option.map_eq_some_iff] at h; obtain ⟨ps, h1, rfl⟩ := h; cases g; simp [deq, PyData.eqv]
  | .tup xs, .str _, p, q, h, g => by
    simp only [toPy, Option.map_eq_some_iff] at h; obtain ⟨ps, h1, rfl⟩ := h; cases g; simp [deq, PyData.eqv]
  | .tup xs, .lst _, p, q, h, g => by
    simp only [toPy, Option.map_eq_some_iff] at h g; obtain ⟨ps, h1, rfl⟩ := h; obtain ⟨qs, g1, rfl⟩ := g; simp [deq, PyData.eqv]
  | .lst xs, .non, p, q, h, g => by
    simp only [toPy, Option.map_eq_some_iff] at h; obtain ⟨ps, h1, rfl⟩ := h; cases g; simp [deq, PyData.eqv]
  | .lst xs, .bl _, p, q, h, g => by
    simp only [toPy, Option.map_eq_some_iff] at h; obtain ⟨ps, h1, rfl⟩ := h; cases g; simp [deq, PyData.eqv]
  | .lst xs, .int _, p, q, h, g => by
    simp only [toPy, Option.map_eq_some_iff] at h; obtain ⟨ps, h1, rfl⟩ := h; cases g; simp [deq, PyData.eqv]
  | .lst xs, .str _, p, q, h, g => by
    simp only [toPy, Option.map_eq_some_iff] at h; obtain ⟨ps, h1, rfl⟩ := h; cases g; simp [deq, PyData.eqv]
  | .lst xs, .tup _, p, q, h, g => by
    simp only [toPy, Option.map_eq_some_iff] at h g; obtain ⟨ps, h1, rfl⟩ := h; obtain ⟨qs, g1, rfl⟩ := g; simp [deq, PyData.eqv]
  | .tup _, .scr _, p, q, h, g => by simp [toPy] at g
  | .tup _, .obj _ _ _, p, q, h, g => by simp [toPy] at g
  | .tup _, .dic _ _, p, q, h, g => by simp [toPy] at g
  | .tup _, .ty _, p, q, h, g => by simp [toPy] at g
  | .tup _, .gl _, p, q, h, g => by simp [toPy] at g
  | .lst _, .scr _, p, q, h, g => by simp [toPy] at g
  | .lst _, .obj _ _ _, p, q, h, g => by simp [toPy] at g
  | .lst _, .dic _ _, p, q, h, g => by simp [toPy] at g
  | .lst _, .ty _, p, q, h, g => by simp [toPy] at g
  | .lst _, .gl _, p, q, h, g => by simp [toPy] at g
  | .scr _, _, p, q, h, g => by simp [toPy] at h
  | .obj _ _ _, _, p, q, h, g => by simp [toPy] at h
  | .dic _ _, _, p, q, h, g => by simp [toPy] at h
  | .ty _, _, p, q, h, g => by simp [toPy] at h
  | .gl _, _, p, q, h, g => by simp [toPy] at h
theorem deqL_eqv : ∀ (xs ys : List D) {ps qs : List PyData}, toPys xs = some ps → toPys ys = some qs → deqL xs ys = PyData.eqvAll ps qs
  | [], [], ps, qs, h, g => by cases h; cases g; simp [deqL, PyData.eqvAll]
  | [], y :: ys, ps, qs, h, g => by
    cases h
    simp only [toPys] at g
    split at g
    · cases g; simp [deqL, PyData.eqvAll]
    · cases g
  | x :: xs, [], ps, qs, h, g => by
    cases g
    simp only [toPys] at h
    split at h
    · cases h; simp [deqL, PyData.eqvAll]
    · cases h
  | x :: xs, y :: ys, ps, qs, h, g => by
    simp only [toPys] at h g
    split at h
    · rename_i p1 ps1 h1 h2
      cases h
      split at g
      · rename_i q1 qs1 g1 g2
        cases g
        simp only [deqL, PyData.eqvAll, deq_eqv x y h1 g1, deqL_eqv xs ys h2 g2]
      · cases g
    · cases h
end
/-- good data is data of the model -/
theorem gds_py {n : Nat} (ih : ∀ d, Gd n d → ∃ p, toPy d = some p ∧ p.canLay0 = true ∧ p.depth ≤ n) : ∀ xs : List D, (∀ x ∈ xs, Gd n x) → ∃ ps, toPys xs = some ps ∧ PyData.canLayAll0 ps = true ∧ PyData.depthAll ps ≤ n
  | [], _ => ⟨[], rfl, rfl, Nat.zero_le _⟩
  | x :: xs, h => by
    obtain ⟨p, h1, h2, h3⟩ := ih x (h x (by simp))
    obtain ⟨ps, g1, g2, g3⟩ := gds_py ih xs fun z hz => h z (by simp [hz])
    exact ⟨p :: ps, by simp only [toPys, h1, g1], by simp [PyData.canLayAll0, h2, g2], by simp only [PyData.depthAll]; omega⟩
theorem gd_py : ∀ (n : Nat) (d : D), Gd n d → ∃ p, toPy d = some p ∧ p.canLay0 = true ∧ p.depth ≤ n
  | n, .non, _ => ⟨.none, rfl, rfl, by simp [PyData.depth]⟩
  | n, .bl b, _ => ⟨.bool b, rfl, rfl, by simp [PyData.depth]⟩
  | n, .int i, _ => ⟨.int i, rfl, rfl, by simp [PyData.depth]⟩
  | n, .str s, h => ⟨.str s, rfl, by simpa [PyData.canLay0] using (by cases n <;> exact h : PyData.strOk s = true), by simp [PyData.depth]⟩
  | n + 1, .tup xs, h => by
    obtain ⟨ps, g1, g2, g3⟩ := gds_py (gd_py n) xs h
    exact ⟨.tuple ps, by simp [toPy, g1], by simpa [PyData.canLay0] using g2, by simp only [PyData.depth]; omega⟩
  | n + 1, .lst xs, h => by
    obtain ⟨ps, g1, g2, g3⟩ := gds_py (gd_py n) xs h
    exact ⟨.list ps, by simp [toPy, g1], by simpa [PyData.canLay0] using g2, by simp only [PyData.depth]; omega⟩
  | 0, .tup xs, h => h.elim
  | 0, .lst xs, h => h.elim
  | n, .scr _, h => by cases n <;> exact h.elim
  | n, .obj _ _ _, h => by cases n <;> exact h.elim
  | n, .dic _ _, h => by cases n <;> exact h.elim
  | n, .ty _, h => by cases n <;> exact h.elim
  | n, .gl _, h => by cases n <;> exact h.elim
theorem eq_gd {b : Bool} {x y : D} (hx : Gd 20 x) (hy : Gd 20 y) : eqD b x y = some (.val (.bl (if b then !deq x y else deq x y))) := by
  obtain ⟨p, h1, h2, h3⟩ := gd_py 20 x hx
  obtain ⟨q, g1, g2, g3⟩ := gd_py 20 y hy
  have s1 : SeqAt.shaped p = true := by simp [SeqAt.shaped, h2]; omega
  have s2 : SeqAt.shaped q = true := by simp [SeqAt.shaped, g2]; omega
  simp only [eqD, h1, g1, s1, s2, Bool.and_self, if_true, deq_eqv x y h1 g1]
@[simp] theorem ev_eqG {x y : D} (hx : Gd 20 x) (hy : Gd 20 y) : eqD false x y = some (.val (.bl (deq x y))) := eq_gd hx hy
@[simp] theorem ev_neG {x y : D} (hx : Gd 20 x) (hy : Gd 20 y) : eqD true x y = some (.val (.bl (!deq x y))) := eq_gd hx hy
theorem any_eqv {x : D} {p : PyData} (h : toPy x = some p) : ∀ (xs : List D) {ps : List PyData}, toPys xs = some ps → (ps.any fun z => PyData.eqv z p) = xs.any fun z => deq z x
  | [], ps, g => by cases g; rfl
  | y :: ys, ps, g => by
    simp only [toPys] at g
    split at g
    · rename_i q qs g1 g2
      cases g
      simp only [List.any_cons, deq_eqv y x g1 h, any_eqv h ys g2]
    · cases g
theorem in_gd {b : Bool} {x e : D} {xs : List D} (he : e = .lst xs ∨ e = .tup xs) (hx : Gd 20 x) (hy : ∀ y ∈ xs, Gd 20 y) : inD b x e = some (.val (.bl (if b then !(xs.any fun z => deq z x) else xs.any fun z => deq z x))) := by
  obtain ⟨p, h1, h2, h3⟩ := gd_py 20 x hx
  obtain ⟨ps, g1, g2, g3⟩ := gds_py (gd_py 20) xs hy
  have s1 : SeqAt.shaped p = true := by simp [SeqAt.shaped, h2]; omega
  have s2 : SeqAt.shaped (.list ps) = true := by simp [SeqAt.shaped, PyData.canLay0, g2, PyData.depth]; omega
  have e1 := any_eqv h1 xs g1
  rcases he with rfl | rfl <;> simp only [inD, h1, seqPy, g1, s1, s2, Bool.and_self, if_true, e1]
@[simp] theorem ev_inL {x : D} {xs : List D} (hx : Gd 20 x) (hy : ∀ y ∈ xs, Gd 20 y) : inD false x (.lst xs) = some (.val (.bl (xs.any fun z => deq z x))) := in_gd (.inl rfl) hx hy
@[simp] theorem ev_inT {x : D} {xs : List D} (hx : Gd 20 x) (hy : ∀ y ∈ xs, Gd 20 y) : inD false x (.tup xs) = some (.val (.bl (xs.any fun z => deq z x))) := in_gd (.inr rfl) hx hy
@[simp] theorem ev_ninL {x : D} {xs : List D} (hx : Gd 20 x) (hy : ∀ y ∈ xs, Gd 20 y) : inD true x (.lst xs) = some (.val (.bl (!xs.any fun z => deq z x))) := in_gd (.inl rfl) hx hy
@[simp] theorem ev_ninT {x : D} {xs : List D} (hx : Gd 20 x) (hy : ∀ y ∈ xs, Gd 20 y) : inD true x (.tup xs) = some (.val (.bl (!xs.any fun z => deq z x))) := in_gd (.inr rfl) hx hy
/-! ### what is no object -/
section
variable {c : Str} {st : DSt}
@[simp] theorem ev_objT {xs : List D} : objOf c (.val (.tup xs)) st = none := rfl
@[simp] theorem ev_objL {xs : List D} : objOf c (.val (.lst xs)) st = none := rfl
@[simp] theorem ev_objN : objOf c (.val .non) st = none := rfl
@[simp] theorem ev_objI {i : Int} : objOf c (.val (.int i)) st = none := rfl
@[simp] theorem ev_objB {i : Bool} : objOf c (.val (.bl i)) st = none := rfl
@[simp] theorem ev_objS {i : Str} : objOf c (.val (.str i)) st = none := rfl
@[simp] theorem ev_objX {xs : List D} : objOf c (.tmp xs) st = none := rfl
end
/-! ### written names -/
theorem ofString_inj' {a b : String} (h : Str.ofString a = Str.ofString b) : a = b := by
  have h1 : (Str.ofString a).cps = (Str.ofString b).cps := by rw [h]
  have h2 : a.toList.map Char.toNat = b.toList.map Char.toNat := by simpa [Str.ofString_eq_toList] using h1
  have inj : ∀ (l m : List Char), l.map Char.toNat = m.map Char.toNat → l = m := by
    intro l
    induction l with
    | nil => intro m hm; cases m with | nil => rfl | cons x m => simp at hm
    | cons x l ih =>
      intro m hm
      cases m with
      | nil => simp at hm
      | cons y m =>
        simp only [List.map_cons, List.cons.injEq] at hm
        have : x = y := by
          apply Char.ext
          apply UInt32.toNat_inj.mp
          exact hm.1
        rw [this, ih m hm.2]
  have h3 := inj _ _ h2
  exact String.toList_inj.mp h3
@[simp] theorem ofString_eq {a b : String} : (Str.ofString a = Str.ofString b) = (a = b) := propext ⟨ofString_inj', fun h => by rw [h]⟩
@[simp] theorem ofString_beq {a b : String} : (Str.ofString a == Str.ofString b) = (a == b) := by
  rw [Bool.eq_iff_iff]; simp
/-! ### what was forgotten -/
section
variable {st : DSt} {ws : List Nat} {f : DS} {i : Nat}
@[simp ↓] theorem ev_W : dW ws f st = (match f st with | .nx s => .nx (wipeL ws s) | .ct s => .ct (wipeL ws s) | .bk s => .bk (wipeL ws s) | .rt r s => .rt r (wipeR r s) | .exc x s => .exc x (keepB s) | .bad => .bad) := rfl
@[simp ↓] theorem ev_Wt : dWt ws f st = (match f st with | .nx s => .nx (wipeL ws s) | .ct s => .ct (wipeL ws s) | .bk s => .bk (wipeL ws s) | .rt r s => .rt r (wipeR r s) | o => o) := rfl
@[simp] theorem ev_wipe0 : wipeL [] st = st := rfl
@[simp] theorem ev_wipe1 : wipeL (i :: ws) st = wipeL ws (st.set i none) := rfl
@[simp] theorem ev_wRv {d : D} : wipeR (.val d) st = keepB st := rfl
@[simp] theorem ev_wRt {xs : List D} : wipeR (.tmp xs) st = keepB st := rfl
@[simp] theorem ev_wRa : wipeR (.at i) st = keepR i st := rfl
@[simp] theorem ev_keep0 : keepB [] = [] := rfl
@[simp] theorem ev_keep1 : keepB (none :: st) = none :: keepB st := rfl
@[simp] theorem ev_keep2 {d : D} : keepB (some (.val d) :: st) = none :: keepB st := rfl
@[simp] theorem ev_keep3 {xs : List D} : keepB (some (.own xs) :: st) = none :: keepB st := rfl
@[simp] theorem ev_keep4 {xs : List D} : keepB (some (.bor xs) :: st) = some (.bor xs) :: keepB st := rfl
@[simp] theorem ev_keep5 {c : Str} {ns : List Str} {ds : List D} : keepB (some (.slf c ns ds) :: st) = some (.slf c ns ds) :: keepB st := rfl
@[simp] theorem ev_kR0 {x : Option S} : keepR 0 (x :: st) = x :: keepB st := rfl
@[simp] theorem ev_kR1 : keepR (i + 1) (none :: st) = none :: keepR i st := rfl
@[simp] theorem ev_kR2 {d : D} : keepR (i + 1) (some (.val d) :: st) = none :: keepR i st := rfl
@[simp] theorem ev_kR3 {xs : List D} : keepR (i + 1) (some (.own xs) :: st) = none :: keepR i st := rfl
@[simp] theorem ev_kR4 {xs : List D} : keepR (i + 1) (some (.bor xs) :: st) = some (.bor xs) :: keepR i st := rfl
end
end Dl

namespace Dl
open PySem L2 PySem.Spec PyProof.Rows
variable [ExI]
/-! ### loops over encoded lists -/
/-- one turn -/
def stepL (t : Tgt) (body : DS) (d : D) (st : DSt) : Fl := match asgT t d st with
  | none => .bad
  | some st1 => match body st1 with
    | .ct s => .nx s
    | o => o
theorem loop_cons {t : Tgt} {body : DS} {d : D} {ds : List D} {st : DSt} : loopD t body (d :: ds) st = (match stepL t body d st with
    | .nx s => loopD t body ds s
    | .bk s => .nx s
    | o => o) := by
  unfold stepL
  rw [loopD]
  cases asgT t d st with
  | none => rfl
  | some st1 =>
    simp only
    cases body st1 <;> rfl
section
variable {α σ : Type} {t : Tgt} {body : DS} {e : α → D} {st : DSt}
theorem loop_nil : loopD t body [] st = .nx st := rfl
/-- a state that is folded -/
theorem loop_fold (mk : σ → DSt) (g : σ → α → σ) (P : List α → σ → Prop) : ∀ (as : List α) (s : σ), P as s → (∀ a r s, P (a :: r) s → P r (g s a) ∧ stepL t body (e a) (mk s) = .nx (mk (g s a))) → loopD t body (as.map e) (mk s) = .nx (mk (as.foldl g s))
  | [], s, _, _ => rfl
  | a :: as, s, h0, h => by
    obtain ⟨h1, h2⟩ := h a as s h0
    rw [List.map_cons, loop_cons, h2]
    exact loop_fold mk g P as (g s a) h1 h
/-- a list that grows -/
theorem loop_flat (mk : List D → DSt) (g : α → List D) : ∀ (as : List α) (acc : List D), acc.length + (as.flatMap g).length ≤ lim → (∀ a ∈ as, ∀ acc, acc.length + (g a).length ≤ lim → stepL t body (e a) (mk acc) = .nx (mk (acc ++ g a))) → loopD t body (as.map e) (mk acc) = .nx (mk (acc ++ as.flatMap g))
  | [], acc, _, _ => by simp [loopD]
  | a :: as, acc, hl, h => by
    have hl' : acc.length + ((g a).length + (as.flatMap g).length) ≤ lim := by simpa using hl
    rw [List.map_cons, loop_cons, h a (by simp) acc (by omega)]
    have := loop_flat mk g as (acc ++ g a) (by simp only [List.length_append]; omega) fun b hb => h b (by simp [hb])
    show loopD t body (as.map e) (mk (acc ++ g a)) = _
    rw [this]
    simp
/-- nothing changes, or the loop is left -/
theorem loop_find (r : α → Option Fl) (hr : ∀ a o, r a = some o → (∃ v s, o = .rt v s) ∨ ∃ x s, o = .exc x s) : ∀ (as : List α), (∀ a ∈ as, stepL t body (e a) st = (r a).getD (.nx st)) → loopD t body (as.map e) st = (as.findSome? r).getD (.nx st)
  | [], _ => rfl
  | a :: as, h => by
    have ih := loop_find r hr as fun b hb => h b (by simp [hb])
    rw [List.map_cons, loop_cons, h a (by simp)]
    cases q : r a with
    | none => simp only [Option.getD_none, List.findSome?_cons, q, ih]
    | some o =>
      simp only [Option.getD_some, List.findSome?_cons, q]
      rcases hr a o q with ⟨v, s, rfl⟩ | ⟨x, s, rfl⟩ <;> rfl
theorem loop_same : ∀ (as : List α), (∀ a ∈ as, stepL t body (e a) st = .nx st) → loopD t body (as.map e) st = .nx st
  | [], _ => rfl
  | a :: as, h => by
    rw [List.map_cons, loop_cons, h a (by simp)]
    exact loop_same as fun b hb => h b (by simp [hb])
/-- ranges -/
theorem rngD_map (n : Nat) : rngD 0 n = (List.range n).map fun (i : Nat) => D.int (i : Int) := by
  simp only [rngD]
  congr 1
  funext i
  simp
theorem rngD_map2 (a b : Nat) : rngD (a : Int) (b - a) = (List.range' a (b - a)).map fun (i : Nat) => D.int (i : Int) := by
  simp only [rngD, List.range'_eq_map_range, List.map_map]
  congr 1
/-- comprehensions -/
theorem comp_list {ft : DT} {fe : DX} {vs : List Nat} (g : α → List D) : ∀ (as : List α) (acc : List D), acc.length + (as.flatMap g).length ≤ lim → (∀ a ∈ as, ∀ acc, acc.length + (g a).length ≤ lim → compD t ft fe vs [e a] acc st = .ok (.tmp (acc ++ g a)) st) → compD t ft fe vs (as.map e) acc st = .ok (.tmp (acc ++ as.flatMap g)) st
  | [], acc, _, _ => by simp [compD]
  | a :: as, acc, hl, h => by
    have hl' : acc.length + ((g a).length + (as.flatMap g).length) ≤ lim := by simpa using hl
    have h1 := h a (by simp) acc (by omega)
    have ih := comp_list (ft := ft) (fe := fe) (vs := vs) g as (acc ++ g a) (by simp only [List.length_append]; omega) fun b hb => h b (by simp [hb])
    have split1 : ∀ (ds : List D), compD t ft fe vs (e a :: ds) acc st = (match compD t ft fe vs [e a] acc st with
        | .ok (.tmp acc') s => compD t ft fe vs ds acc' s
        | o => o) := fun ds => by
      simp only [compD]
      cases asgT t (e a) (wipeD st vs) with
      | none => rfl
      | some st1 =>
        simp only
        cases ft st1 with
        | ok b st2 =>
          cases b with
          | true =>
            simp only
            cases fe st2 with
            | ok r st3 =>
              simp only
              cases frz1 r st3 with
              | none => rfl
              | some q =>
                obtain ⟨x, st4⟩ := q
                simp only
                split <;> rfl
            | exc x s => rfl
            | bad => rfl
          | false => rfl
        | exc x s => rfl
        | bad => rfl
    rw [List.map_cons, split1, h1]
    simp only
    rw [ih]
    simp
theorem lc_list {fi : DIt} {ft : DT} {fe : DX} {vs : List Nat} {st0 : DSt} {as : List α} (e : α → D) (g : α → List D) (hi : fi st0 = .ok (as.map e) st) (hl : (as.flatMap g).length ≤ lim)
    (h : ∀ a ∈ as, ∀ acc, acc.length + (g a).length ≤ lim → compD t ft fe vs [e a] acc st = .ok (.tmp (acc ++ g a)) st) : dLc fi t ft fe vs st0 = .ok (.tmp (as.flatMap g)) st := by
  rw [ev_lc, ev_bnd, hi]
  simp only
  rw [comp_list g as [] (by simpa using hl) h]
  simp
/-- all items, each by its own -/
theorem lc_maps {fi : DIt} {ft : DT} {fe : DX} {vs : List Nat} {st0 : DSt} {as : List α} (e g : α → D) (hi : fi st0 = .ok (as.map e) st) (hl : as.length ≤ lim)
    (h : ∀ a ∈ as, ∀ acc, acc.length < lim → compD t ft fe vs [e a] acc st = .ok (.tmp (acc ++ [g a])) st) : dLc fi t ft fe vs st0 = .ok (.tmp (as.map g)) st := by
  have q : ∀ l : List α, l.flatMap (fun a => [g a]) = l.map g := fun l => by induction l <;> simp_all
  rw [lc_list e (fun a => [g a]) hi (by rw [q]; simpa using hl) fun a ha acc hh => h a ha acc (by simp at hh; omega), q]
/-- some items -/
theorem lc_filt {fi : DIt} {ft : DT} {fe : DX} {vs : List Nat} {st0 : DSt} {as : List α} (e g : α → D) (p : α → Bool) (hi : fi st0 = .ok (as.map e) st) (hl : as.length ≤ lim)
    (h : ∀ a ∈ as, ∀ acc, acc.length < lim → compD t ft fe vs [e a] acc st = .ok (.tmp (if p a then acc ++ [g a] else acc)) st) : dLc fi t ft fe vs st0 = .ok (.tmp ((as.filter p).map g)) st := by
  have q : ∀ l : List α, l.flatMap (fun a => if p a then [g a] else []) = (l.filter p).map g := fun l => by
    induction l with
    | nil => rfl
    | cons a l ih =>
      cases e : p a <;> simp [e, ih]
  have len : ((as.filter p).map g).length ≤ lim := by
    rw [List.length_map]
    exact Nat.le_trans (List.length_filter_le _ _) hl
  have hcomp : ∀ (bs : List α), (∀ a ∈ bs, a ∈ as) → ∀ acc, acc.length + bs.length ≤ lim → compD t ft fe vs (bs.map e) acc st = .ok (.tmp (acc ++ (bs.filter p).map g)) st := by
    intro bs
    induction bs with
    | nil => intro _ acc _; simp [compD]
    | cons a bs ih =>
      intro hm acc hacc
      simp only [List.length_cons] at hacc
      have h1 := h a (hm a (by simp)) acc (by omega)
      have split1 : compD t ft fe vs (e a :: bs.map e) acc st = (match compD t ft fe vs [e a] acc st with
          | .ok (.tmp acc') s => compD t ft fe vs (bs.map e) acc' s
          | o => o) := by
        simp only [compD]
        cases asgT t (e a) (wipeD st vs) with
        | none => rfl
        | some st1 =>
          simp only
          cases ft st1 with
          | ok b st2 =>
            cases b with
            | true =>
              simp only
              cases fe st2 with
              | ok r st3 =>
                simp only
                cases frz1 r st3 with
                | none => rfl
                | some q =>
                  obtain ⟨x, st4⟩ := q
                  simp only
                  split <;> rfl
              | exc x s => rfl
              | bad => rfl
            | false => rfl
          | exc x s => rfl
          | bad => rfl
      rw [List.map_cons, split1, h1]
      simp only
      cases hp : p a with
      | true =>
        simp only [if_true]
        rw [ih (fun b hb => hm b (by simp [hb])) (acc ++ [g a]) (by simp; omega)]
        simp [hp]
      | false =>
        simp only [Bool.false_eq_true, if_false]
        rw [ih (fun b hb => hm b (by simp [hb])) acc (by omega)]
        simp [hp]
  rw [ev_lc, ev_bnd, hi]
  simp only
  rw [hcomp as (fun _ h => h) [] (by simpa using hl)]
  simp
end
/-- one turn of a comprehension -/
theorem comp_one {t : Tgt} {ft : DT} {fe : DX} {vs : List Nat} {d : D} {acc : List D} {st : DSt} : compD t ft fe vs [d] acc st = (match asgT t d (wipeD st vs) with
    | none => .bad
    | some st1 => (match ft st1 with
      | .ok b st2 => if b = true then (match fe st2 with
        | .ok r st3 => (match frz1 r st3 with
          | some (x, st4) => if acc.length < lim then .ok (.tmp (acc ++ [x])) (unwipe st st4 vs) else .bad
          | none => .bad)
        | _ => .bad) else .ok (.tmp acc) (unwipe st st2 vs)
      | _ => .bad)) := by
  simp only [compD]
  cases asgT t d (wipeD st vs) with
  | none => rfl
  | some st1 =>
    simp only
    cases ft st1 with
    | ok b st2 => cases b <;> rfl
    | exc x s => rfl
    | bad => rfl
/-! ### comprehensions that change the state -/
def mapS {σ α β : Type} (g : σ → α → σ) (y : σ → α → β) : σ → List α → List β
  | _, [] => []
  | s, a :: as => y s a :: mapS g y (g s a) as
theorem mapS_len {σ α β : Type} (g : σ → α → σ) (y : σ → α → β) : ∀ (s : σ) (as : List α), (mapS g y s as).length = as.length
  | _, [] => rfl
  | s, a :: as => by simp [mapS, mapS_len g y (g s a) as]
theorem mapS_all {σ α β : Type} {g : σ → α → σ} {y : σ → α → β} {P : β → Prop} {as : List α} (h : ∀ s, ∀ a ∈ as, P (y s a)) : ∀ (s : σ), ∀ b ∈ mapS g y s as, P b := by
  induction as with
  | nil => intro s b hb; simp [mapS] at hb
  | cons a as ih =>
    intro s b hb
    simp only [mapS, List.mem_cons] at hb
    rcases hb with rfl | hb
    · exact h s a (by simp)
    · exact ih (fun s a ha => h s a (by simp [ha])) _ b hb
theorem comp_step {t : Tgt} {ft : DT} {fe : DX} {vs : List Nat} {d : D} {ds acc : List D} {st : DSt} : compD t ft fe vs (d :: ds) acc st = (match compD t ft fe vs [d] acc st with
    | .ok (.tmp acc') s => compD t ft fe vs ds acc' s
    | o => o) := by
  simp only [compD]
  cases asgT t d (wipeD st vs) with
  | none => rfl
  | some st1 =>
    simp only
    cases ft st1 with
    | ok b st2 =>
      cases b with
      | true =>
        simp only
        cases fe st2 with
        | ok r st3 =>
          simp only
          cases frz1 r st3 with
          | none => rfl
          | some q =>
            obtain ⟨x, st4⟩ := q
            simp only
            split <;> rfl
        | exc x s => rfl
        | bad => rfl
      | false => rfl
    | exc x s => rfl
    | bad => rfl
theorem comp_fold {σ α : Type} {t : Tgt} {ft : DT} {fe : DX} {vs : List Nat} {e : α → D} (mk : σ → DSt) (g : σ → α → σ) (y : σ → α → D) (P : σ → Prop) : ∀ (as : List α) (s : σ) (acc : List D), P s → acc.length + as.length ≤ lim →
    (∀ s, ∀ a ∈ as, ∀ acc, P s → acc.length < lim → P (g s a) ∧ compD t ft fe vs [e a] acc (mk s) = .ok (.tmp (acc ++ [y s a])) (mk (g s a))) → compD t ft fe vs (as.map e) acc (mk s) = .ok (.tmp (acc ++ mapS g y s as)) (mk (as.foldl g s))
  | [], s, acc, _, _, _ => by simp [compD, mapS]
  | a :: as, s, acc, hP, hl, h => by
    simp only [List.length_cons] at hl
    obtain ⟨h1, h2⟩ := h s a (by simp) acc hP (by omega)
    rw [List.map_cons, comp_step, h2]
    show compD t ft fe vs (as.map e) (acc ++ [y s a]) (mk (g s a)) = _
    rw [comp_fold mk g y P as (g s a) (acc ++ [y s a]) h1 (by simp; omega) fun s' b hb => h s' b (by simp [hb])]
    simp [mapS]
theorem lc_fold {σ α : Type} {fi : DIt} {t : Tgt} {ft : DT} {fe : DX} {vs : List Nat} {st0 : DSt} {as : List α} {s : σ} (e : α → D) (mk : σ → DSt) (g : σ → α → σ) (y : σ → α → D) (P : σ → Prop) (hi : fi st0 = .ok (as.map e) (mk s)) (hP : P s) (hl : as.length ≤ lim)
    (h : ∀ s, ∀ a ∈ as, ∀ acc, P s → acc.length < lim → P (g s a) ∧ compD t ft fe vs [e a] acc (mk s) = .ok (.tmp (acc ++ [y s a])) (mk (g s a))) : dLc fi t ft fe vs st0 = .ok (.tmp (mapS g y s as)) (mk (as.foldl g s)) := by
  rw [ev_lc, ev_bnd, hi]
  simp only
  rw [comp_fold mk g y P as s [] hP (by simpa using hl) h]
  simp
/-! ### a law's body ends with True -/
def Tr (o : Fl) : Prop := ∃ s, o = .rt (.val (.bl true)) s
theorem Tr.seq {f g : DS} {st s1 : DSt} (h : f st = .nx s1) (h2 : Tr (g s1)) : Tr (dSeq f g st) := by
  obtain ⟨s, e⟩ := h2
  exact ⟨s, by rw [seq_nx h, e]⟩
theorem Tr.rt {o : Fl} {s : DSt} (h : o = .rt (.val (.bl true)) s) : Tr o := ⟨s, h⟩
def tr : Fl → Bool
  | .rt (.val (.bl true)) _ => true
  | _ => false
@[simp] theorem tr_rt {b : Bool} {s : DSt} : tr (.rt (.val (.bl b)) s) = b := by cases b <;> rfl
theorem Tr.by_ {o : Fl} (h : tr o = true) : Tr o := by
  unfold tr at h
  split at h
  · exact ⟨_, rfl⟩
  · cases h
theorem Tr.of {o o' : Fl} (h : o = o') (h2 : Tr o') : Tr o := h ▸ h2
/-! ### over an owned list -/
theorem compO_turn {i n k : Nat} {t : Tgt} {ft : DT} {fe : DX} {vs : List Nat} {st s2 : DSt} {xs acc acc2 : List D} {d : D} (hx : getC st i = some xs) (hn : xs.length = n) (hd : xs[n - (k + 1)]? = some d) (h : compD t ft fe vs [d] acc st = .ok (.tmp acc2) s2) : compO i n t ft fe vs (k + 1) acc st = compO i n t ft fe vs k acc2 s2 := by
  simp only [compD] at h
  simp only [compO, hx, hn, if_true, hd]
  cases h1 : asgT t d (wipeD st vs) with
  | none => rw [h1] at h; cases h
  | some st1 =>
    rw [h1] at h
    simp only at h ⊢
    cases h2 : ft st1 with
    | bad => rw [h2] at h; cases h
    | exc x s => rw [h2] at h; cases h
    | ok b st2 =>
      rw [h2] at h
      cases b with
      | false =>
        simp only at h ⊢
        cases h
        rfl
      | true =>
        simp only at h ⊢
        cases h3 : fe st2 with
        | bad => rw [h3] at h; cases h
        | exc x s => rw [h3] at h; cases h
        | ok r st3 =>
          rw [h3] at h
          simp only at h ⊢
          cases h4 : frz1 r st3 with
          | none => rw [h4] at h; cases h
          | some z =>
            rw [h4] at h
            simp only at h ⊢
            by_cases h5 : acc.length < lim
            · rw [if_pos h5] at h ⊢
              cases h
              rfl
            · rw [if_neg h5] at h
              cases h
theorem lcO_maps {α : Type} {i : Nat} {t : Tgt} {ft : DT} {fe : DX} {vs : List Nat} {st : DSt} {as : List α} (e g : α → D) (hi : getC st i = some (as.map e)) (hl : as.length ≤ lim)
    (h : ∀ a ∈ as, ∀ acc, acc.length < lim → compD t ft fe vs [e a] acc st = .ok (.tmp (acc ++ [g a])) st) : dLcO i t ft fe vs st = .ok (.tmp (as.map g)) st := by
  have key : ∀ (k : Nat) (acc : List D), k ≤ as.length → acc.length + k ≤ lim → compO i as.length t ft fe vs k acc st = .ok (.tmp (acc ++ (as.drop (as.length - k)).map g)) st := by
    intro k
    induction k with
    | zero =>
      intro acc _ _
      simp only [compO]
      rw [hi]
      simp
    | succ k ih =>
      intro acc hk ha
      have lt : as.length - (k + 1) < as.length := by omega
      rw [compO_turn hi (by simp) (d := e as[as.length - (k + 1)]) (by simp [lt]) (h _ (List.getElem_mem lt) acc (by omega)), ih _ (by omega) (by simp; omega), List.drop_eq_getElem_cons lt, show as.length - (k + 1) + 1 = as.length - k by omega]
      simp
  rw [ev_lcO, hi]
  simp only [List.length_map]
  rw [key _ [] (Nat.le_refl _) (by simpa using hl)]
  simp
/-- no exception is being handled -/
instance exi0 : ExI := ⟨none⟩
end Dl

namespace Lw
open PySem L2 Dl PySem.Spec PyProof.Rows
abbrev Pp : Program := PySem.Challenge.pw_shelfterms_k08_rule_refusals
def top (i : Nat) : Stmt := PySem.Challenge.pw_shelfterms_k08_rule_refusals.main.body.getD i (.Pass ⟨0, 0, 0, 0⟩)
def dA (a : PySem.W.Frag → Addr) (x q : Str) (st : Stmt) : He5.DefA := ⟨a, x, q, defArgs st, defBody st, defScope st, [], []⟩
def sx_InvalidRule : SupD := ⟨"InvalidRule", "InvalidRule.__init__", defArgs (inC (top 3) 0), defBody (inC (top 3) 0), defScope (inC (top 3) 0)⟩
def sx : List SupD := [sx_InvalidRule]
def fn : List He5.DefA := [dA (fun K => (He.ga K "_law_box")) "_law_box" "_law_box" (top 14), dA (fun K => (He.ga K "_law_take")) "_law_take" "_law_take" (top 15), dA (fun K => (He.ga K "_law_rule")) "_law_rule" "_law_rule" (top 16), dA (fun K => (He.ga K "_law_same")) "_law_same" "_law_same" (top 17), dA (fun K => (He.ga K "is_integer")) "is_integer" "is_integer" (top 6), dA (fun K => (He.ga K "is_term")) "is_term" "is_term" (top 8), dA (fun K => (He.ma K (He.ga K "Rule") "__init__")) "__init__" "Rule.__init__" (inC (top 12) 0), dA (fun K => (He5.wf K (He.ga K "Rule") "staticmethod" "ascending")) "ascending" "Rule.ascending" (inC (top 12) 2), dA (fun K => (He5.wf K (He.ga K "Rule") "classmethod" "listed")) "listed" "Rule.listed" (inC (top 12) 1), dA (fun K => (He.ga K "_law_ask")) "_law_ask" "_law_ask" (top 18), dA (fun K => (He.ga K "law")) "law" "law" (top 19)]
def fa : List He.Fa := [.free "list", .free "len", .free "int", .free "range", .glo "_law_take", .free "bool", .free "isinstance", .free "str", .free "tuple", .glo "_law_same", .glo "is_integer", .int "MOST_MARKS" 8, .glo "is_term", .meth "InvalidRule" "__init__", .glo "InvalidRule", .cls "Rule", .noat "Rule" "terms", .glo "Rule", .mkr "Rule", .glo "ShelfError", .glo "_law_box", .glo "_law_rule", .glo "_law_ask", .free "super", .noat "InvalidRule" "terms", .glo "law"]
def ex : List Ex := [oexB "InvalidRule", cmB "Rule" "listed", smB "Rule" "ascending", xfE "InvalidRule", xnB "InvalidRule" "terms", excCB "InvalidRule", kitXB "InvalidRule" "ShelfError" true, exmB "InvalidRule" "ShelfError" false, exmB "InvalidRule" "InvalidRule" true, exmB "InvalidRule" "InvalidText" false, supB Pp (sx_InvalidRule) "self"]
/-! _law_box -/
def N__law_box : List Str := ["_law_script"]
def b__law_box_0 : DS := dRet (dLst (dCons (dList (dCons (dSlice (dVar 0) dNoPart (dPart (dC (.int 63)))) dNil)) (dCons (dC (.int 0)) (dCons (dC (.int 0)) (dCons (dC (.int 1)) dNil)))))
def b__law_box : DS := b__law_box_0
def f__law_box : FnD := runD 1 b__law_box
/-! _law_take -/
def N__law_take : List Str := ["_law_box_here", "_law_size", "_law_cell", "_law_digit"]
def b__law_take_0a_0 : DS := dFz [2] (dSet 2 (dIx (dIx (dVar 0) (dC (.int 0))) (dIx (dVar 0) (dC (.int 1)))))
def b__law_take_0a_1 : DS := dSetIx 0 (dC (.int 1)) (dOp2 (by2 addD) (dIx (dVar 0) (dC (.int 1))) (dC (.int 1)))
def b__law_take_0a_2a_0 : DS := dW [2] (dSetIx 0 (dC (.int 2)) (dSub (dVar 2) (dPow (dC (.int 10)) (dC (.int 18)))))
def b__law_take_0a_2b_0 : DS := dW [2] (dSetIx 0 (dC (.int 3)) (dMod (dInt (dCons (dOp2 (by2 addD) (dMul (dIx (dVar 0) (dC (.int 3))) (dC (.int 69621))) (dVar 2)) dNil)) (dC (.int 2147483647))))
def b__law_take_0a_2 : DS := dW [2] (dIf (asB (dOp2 oGe (dVar 2) (dPow (dC (.int 10)) (dC (.int 18))))) b__law_take_0a_2a_0 b__law_take_0a_2b_0)
def b__law_take_0 : DS := dW [2] (dIf ((tAndD (asB (dOp2 oEq (dIx (dVar 0) (dC (.int 2))) (dC (.int 0)))) (asB (dOp2 oLtA (dIx (dVar 0) (dC (.int 1))) (dLen (dCons (dIx (dVar 0) (dC (.int 0))) dNil)))))) (dSeq b__law_take_0a_0 (dSeq b__law_take_0a_1 b__law_take_0a_2)) dNx)
def b__law_take_1a_0 : DS := dSet 3 (dMod (dInt (dCons (dIx (dVar 0) (dC (.int 2))) dNil)) (dVar 1))
def b__law_take_1a_1 : DS := dSetIx 0 (dC (.int 2)) (dFDiv (dIx (dVar 0) (dC (.int 2))) (dVar 1))
def b__law_take_1a_2 : DS := dRet (dVar 3)
def b__law_take_1 : DS := dW [3] (dIf (asB (dOp2 oGtA (dIx (dVar 0) (dC (.int 2))) (dC (.int 0)))) (dSeq b__law_take_1a_0 (dSeq b__law_take_1a_1 b__law_take_1a_2)) dNx)
def b__law_take_2 : DS := dSetIx 0 (dC (.int 3)) (dMod (dInt (dCons (dOp2 (by2 addD) (dMul (dIx (dVar 0) (dC (.int 3))) (dC (.int 48271))) (dC (.int 11))) dNil)) (dC (.int 2147483647)))
def b__law_take_3 : DS := dRet (dMod (dInt (dCons (dFDiv (dIx (dVar 0) (dC (.int 3))) (dC (.int 7))) dNil)) (dVar 1))
def b__law_take : DS := (dSeq b__law_take_0 (dSeq b__law_take_1 (dSeq b__law_take_2 b__law_take_3)))
def f__law_take : FnD := runD 4 b__law_take
/-! _law_rule -/
def N__law_rule : List Str := ["_law_box_here", "_law_count", "_law_left", "_law_terms", "_law_k", "_law_mark"]
def b__law_rule_0 : DS := dSet 2 (dListRng (dVar 1))
def b__law_rule_1 : DS := dSet 3 (dLst dNil)
def b__law_rule_2l_0 : DS := dFz [5] (dSet 5 (dPop 2 (dCall 2 f__law_take [] (some 0) (dCons (dVar 0) (dCons (dLen (dCons (dVar 2) dNil)) dNil)))))
def b__law_rule_2l_1 : DS := dW [5] (dDrop (dApp 3 (dTup (dCons (dVar 5) (dCons (dSub (dC (.int 1)) (dMul (dC (.int 2)) (dCall 2 f__law_take [] (some 0) (dCons (dVar 0) (dCons (dC (.int 2)) dNil))))) dNil)))))
def b__law_rule_2l : DS := dW [4, 5] ((dSeq b__law_rule_2l_0 b__law_rule_2l_1))
def b__law_rule_2 : DS := dW [2, 4, 5] (dFor (itRng1 (dCons (dVar 1) dNil)) (.nm 4) b__law_rule_2l)
def b__law_rule_3 : DS := dRet (dVar 3)
def b__law_rule : DS := (dSeq b__law_rule_0 (dSeq b__law_rule_1 (dSeq b__law_rule_2 b__law_rule_3)))
def f__law_rule : FnD := runD 6 b__law_rule
/-! _law_same -/
def N__law_same : List Str := ["_law_actual", "_law_due", "_law_k"]
def b__law_same_0a_0 (self : FnD) : DS := dRet (dOp2 oIs (dVar 0) (dC .non))
def b__law_same_0 (self : FnD) : DS := dIf (asB (dOp2 oIs (dVar 1) (dC .non))) (b__law_same_0a_0 self) dNx
def b__law_same_1a_0 (self : FnD) : DS := dRet ((dAndV (dIsi .bool (dCons (dVar 0) (dCons (dC (.ty "bool")) dNil))) (dOp2 oEq (dVar 0) (dVar 1))))
def b__law_same_1 (self : FnD) : DS := dIf (dTru (dIsi .bool (dCons (dVar 1) (dCons (dC (.ty "bool")) dNil)))) (b__law_same_1a_0 self) dNx
def b__law_same_2a_0 (self : FnD) : DS := dRet ((dAndV (dIsi .int (dCons (dVar 0) (dCons (dC (.ty "int")) dNil))) (dAndV (dNotV (dIsi .bool (dCons (dVar 0) (dCons (dC (.ty "bool")) dNil)))) (dOp2 oEq (dVar 0) (dVar 1)))))
def b__law_same_2 (self : FnD) : DS := dIf (dTru (dIsi .int (dCons (dVar 1) (dCons (dC (.ty "int")) dNil)))) (b__law_same_2a_0 self) dNx
def b__law_same_3a_0 (self : FnD) : DS := dRet ((dAndV (dIsi .str (dCons (dVar 0) (dCons (dC (.ty "str")) dNil))) (dOp2 oEq (dVar 0) (dVar 1))))
def b__law_same_3 (self : FnD) : DS := dIf (dTru (dIsi .str (dCons (dVar 1) (dCons (dC (.ty "str")) dNil)))) (b__law_same_3a_0 self) dNx
def b__law_same_4a_0 (self : FnD) : DS := dRet (dC (.bl false))
def b__law_same_4 (self : FnD) : DS := dIf (asB (dOp2 oNe (dIsi .tuple (dCons (dVar 1) (dCons (dC (.ty "tuple")) dNil))) (dIsi .tuple (dCons (dVar 0) (dCons (dC (.ty "tuple")) dNil))))) (b__law_same_4a_0 self) dNx
def b__law_same_5a_0 (self : FnD) : DS := dRet (dC (.bl false))
def b__law_same_5 (self : FnD) : DS := dIf ((tOrD (asB (dOp2 oNe (dIsi .list (dCons (dVar 1) (dCons (dC (.ty "list")) dNil))) (dIsi .list (dCons (dVar 0) (dCons (dC (.ty "list")) dNil))))) (asB (dOp2 oNe (dLen (dCons (dVar 0) dNil)) (dLen (dCons (dVar 1) dNil)))))) (b__law_same_5a_0 self) dNx
def b__law_same_6l_0a_0 (self : FnD) : DS := dRet (dC (.bl false))
def b__law_same_6l_0 (self : FnD) : DS := dW [2] (dIf (tNotD (dTru (dCall 2 self [] none (dCons (dIx (dVar 0) (dVar 2)) (dCons (dIx (dVar 1) (dVar 2)) dNil))))) (b__law_same_6l_0a_0 self) dNx)
def b__law_same_6l (self : FnD) : DS := dW [2] ((b__law_same_6l_0 self))
def b__law_same_6 (self : FnD) : DS := dW [2] (dFor (itRng1 (dCons (dLen (dCons (dVar 1) dNil)) dNil)) (.nm 2) (b__law_same_6l self))
def b__law_same_7 (self : FnD) : DS := dRet (dC (.bl true))
def b__law_same (self : FnD) : DS := (dSeq (b__law_same_0 self) (dSeq (b__law_same_1 self) (dSeq (b__law_same_2 self) (dSeq (b__law_same_3 self) (dSeq (b__law_same_4 self) (dSeq (b__law_same_5 self) (dSeq (b__law_same_6 self) (b__law_same_7 self))))))))
def f__law_same : Nat → FnD
  | 0 => fun _ => .bad
  | n + 1 => runD 3 (b__law_same (f__law_same n))
/-! is_integer -/
def N_is_integer : List Str := ["value"]
def b_is_integer_0 : DS := dRet ((dAndV (dIsi .int (dCons (dVar 0) (dCons (dC (.ty "int")) dNil))) (dNotV (dIsi .bool (dCons (dVar 0) (dCons (dC (.ty "bool")) dNil))))))
def b_is_integer : DS := b_is_integer_0
def f_is_integer : FnD := runD 1 b_is_integer
/-! is_term -/
def N_is_term : List Str := ["value", "count", "mark", "direction"]
def b_is_term_0a_0 : DS := dRet (dC (.bl false))
def b_is_term_0 : DS := dIf ((tOrD (tNotD (dTru (dIsi .tuple (dCons (dVar 0) (dCons (dC (.ty "tuple")) dNil))))) (asB (dOp2 oNe (dLen (dCons (dVar 0) dNil)) (dC (.int 2)))))) b_is_term_0a_0 dNx
def b_is_term_1 : DS := dSetT (.tp [2, 3]) (dVar 0)
def b_is_term_2a_0 : DS := dRet (dC (.bl false))
def b_is_term_2 : DS := dIf ((tOrD (tNotD (dTru (dCall 1 f_is_integer [] none (dCons (dVar 2) dNil)))) (tNotD (dTru (dCall 1 f_is_integer [] none (dCons (dVar 3) dNil)))))) b_is_term_2a_0 dNx
def b_is_term_3 : DS := dRet ((dAndV (dChain (fun i j => decide (i ≤ j)) (fun i j => decide (i < j)) (dC (.int 0)) (dVar 2) (dVar 1)) ((dOrV (dOp2 oEq (dVar 3) (dC (.int 1))) (dOp2 oEq (dVar 3) (dNeg (dC (.int 1))))))))
def b_is_term : DS := (dSeq b_is_term_0 (dSeq b_is_term_1 (dSeq b_is_term_2 b_is_term_3)))
def f_is_term : FnD := runD 4 b_is_term
/-! Rule.__init__ -/
def N_Rule___init__ : List Str := ["self", "terms", "marks", "term"]
def b_Rule___init___0 : DS := dSet 2 (dLst dNil)
def b_Rule___init___1l_0a_0 : DS := dRaise "InvalidRule" ["terms"] (dCons (dVar 1) dNil)
def b_Rule___init___1l_0 : DS := dIf ((tOrD (tNotD (dTru (dCall 2 f_is_term [] none (dCons (dVar 3) (dCons (dC (.int 8)) dNil))))) (asB (dOp2 oIn (dIx (dVar 3) (dC (.int 0))) (dVar 2))))) b_Rule___init___1l_0a_0 dNx
def b_Rule___init___1l_1 : DS := dW [3] (dDrop (dApp 2 (dIx (dVar 3) (dC (.int 0)))))
def b_Rule___init___1l : DS := dW [3] ((dSeq b_Rule___init___1l_0 b_Rule___init___1l_1))
def b_Rule___init___1 : DS := dW [2, 3] (dFor (itSeq (dVar 1)) (.nm 3) b_Rule___init___1l)
def b_Rule___init___2 : DS := dSelf "Rule" "terms" (dTuple (dCons (dVar 1) dNil))
def b_Rule___init__ : DS := (dSeq b_Rule___init___0 (dSeq b_Rule___init___1 b_Rule___init___2))
def f_Rule___init__ : IFn := starI 1 (runI "Rule" 2 4 b_Rule___init__)
/-! Rule.ascending -/
def N_Rule_ascending : List Str := ["marks", "terms", "mark"]
def b_Rule_ascending_c1e : DX := (dTup (dCons (dVar 2) (dCons (dC (.int 1)) dNil)))
def b_Rule_ascending_c1 : DX := dLc (itSeq (dVar 0)) (.nm 2) tYesD (b_Rule_ascending_c1e) [2]
def b_Rule_ascending_0 : DS := dFz [1] (dSet 1 ((b_Rule_ascending_c1)))
def b_Rule_ascending_1 : DS := dRet (dMakeS "Rule" f_Rule___init__ (dVar 1))
def b_Rule_ascending : DS := (dSeq b_Rule_ascending_0 b_Rule_ascending_1)
def f_Rule_ascending : FnD := starD 0 (runD 3 b_Rule_ascending)
/-! Rule.listed -/
def N_Rule_listed : List Str := ["cls", "terms"]
def b_Rule_listed_0 : DS := dRet (dIfGl 0 "Rule" (dMakeS "Rule" f_Rule___init__ (dVar 1)))
def b_Rule_listed : DS := b_Rule_listed_0
def f_Rule_listed : FnD := runD 2 b_Rule_listed
/-! _law_ask -/
def N__law_ask : List Str := ["_law_way", "_law_row", "e"]
def b__law_ask_0y_0a_0 : DS := dRet (dFld "Rule" "terms" (dMake "Rule" f_Rule___init__ (dCons (dIx (dVar 1) (dC (.int 0))) (dCons (dIx (dVar 1) (dC (.int 1))) (dCons (dIx (dVar 1) (dC (.int 2))) dNil)))))
def b__law_ask_0y_0 : DS := dIf (asB (dOp2 oEq (dVar 0) (dC (.int 0)))) b__law_ask_0y_0a_0 dNx
def b__law_ask_0y_1a_0 : DS := dRet (dFld "Rule" "terms" (dCMeth "Rule" (padD 2 [] f_Rule_listed) (dC (.gl "Rule")) (dCons (dList (dCons (dVar 1) dNil)) dNil)))
def b__law_ask_0y_1 : DS := dIf (asB (dOp2 oEq (dVar 0) (dC (.int 1)))) b__law_ask_0y_1a_0 dNx
def b__law_ask_0y_2 : DS := dRet (dFld "Rule" "terms" (dSMeth "Rule" f_Rule_ascending (dC (.gl "Rule")) (dCons (dIx (dVar 1) (dC (.int 0))) (dCons (dIx (dVar 1) (dC (.int 1))) (dCons (dIx (dVar 1) (dC (.int 2))) dNil)))))
def b__law_ask_0y : DS := (dSeq b__law_ask_0y_0 (dSeq b__law_ask_0y_1 b__law_ask_0y_2))
def b__law_ask_0h_0 : DS := dRet (dLst (dCons (dC (.str "refused")) (dCons (dExF 2 "InvalidRule" "terms") (dCons (dExIs 2 "InvalidRule" true) dNil))))
def b__law_ask_0h : DS := b__law_ask_0h_0
def b__law_ask_0 : DS := dWt [2] (dTry [("ShelfError", false), ("InvalidRule", true), ("InvalidText", false)] 2 (b__law_ask_0y) (b__law_ask_0h))
def b__law_ask : DS := b__law_ask_0
def f__law_ask : FnD := runD 3 b__law_ask
/-! law -/
def N_law : List Str := ["_law_script", "_law_box_here", "_law_good", "_law_at", "_law_odd", "_law_row", "_law_way", "_law_marks", "_law_due", "_law_wrong", "_law_eight", "_law_i", "_law_j", "_law_term", "_law_mark"]
def b_law_0 : DS := dSet 1 (dCall 1 f__law_box [] none (dCons (dVar 0) dNil))
def b_law_1 : DS := dSet 2 (dSlice (dCall 2 f__law_rule [] (some 0) (dCons (dVar 1) (dCons (dC (.int 8)) dNil))) dNoPart (dPart (dC (.int 3))))
def b_law_2 : DS := dFz [3] (dSet 3 (dCall 2 f__law_take [] (some 0) (dCons (dVar 1) (dCons (dC (.int 3)) dNil))))
def b_law_3 : DS := dFz [4] (dSet 4 (dLst (dCons (dTup (dCons (dC (.int 8)) (dCons (dC (.int 1)) dNil))) (dCons (dTup (dCons (dNeg (dC (.int 1))) (dCons (dC (.int 1)) dNil))) (dCons (dTup (dCons (dC (.int 0)) (dCons (dC (.int 0)) dNil))) (dCons (dTup (dCons (dC (.int 7)) (dCons (dC (.int 2)) dNil))) (dCons (dTup (dCons (dC (.bl true)) (dCons (dC (.int 1)) dNil))) (dCons (dTup (dCons (dC (.int 0)) (dCons (dC (.bl true)) dNil))) (dCons (dLst (dCons (dC (.int 0)) (dCons (dC (.int 1)) dNil))) (dCons (dTup (dCons (dC (.int 0)) dNil)) (dCons (dTup (dCons (dC (.int 0)) (dCons (dC (.int 1)) (dCons (dC (.int 1)) dNil)))) (dCons (dC (.int 5)) (dCons (dC .non) (dCons (dC (.str "01")) (dCons (dTup (dCons (dC (.int 0)) (dCons (dNeg (dC (.int 2))) dNil))) dNil)))))))))))))))
def b_law_4 : DS := dFz [4] (dSet 4 (dOp2 (by2 addD) (dVar 4) (dLst (dCons (dTup (dCons (dIx (dIx (dVar 2) (dSub (dVar 3) (dC (.int 1)))) (dC (.int 0))) (dCons (dC (.int 1)) dNil))) (dCons (dTup (dCons (dIx (dIx (dVar 2) (dSub (dVar 3) (dC (.int 1)))) (dC (.int 0))) (dCons (dNeg (dC (.int 1))) dNil))) (dCons (dTup (dCons (dC (.int 0)) (dCons (dC (.str "1")) dNil))) (dCons (dTup (dCons (dPow (dC (.int 10)) (dC (.int 20))) (dCons (dC (.int 1)) dNil))) (dCons (dTup (dCons (dC (.str "0")) (dCons (dC (.int 1)) dNil))) dNil))))))))
def b_law_5 : DS := dSet 5 (dList (dCons (dVar 2) dNil))
def b_law_6 : DS := dW [4] (dSetIx 5 (dVar 3) (dIx (dVar 4) (dCall 2 f__law_take [] (some 0) (dCons (dVar 1) (dCons (dC (.int 18)) dNil)))))
def b_law_7l_0a_0 : DS := dRet (dC (.bl false))
def b_law_7l_0 : DS := dIf (tNotD (dTru (dCall 2 (f__law_same 6) [] none (dCons (dCallB 2 f__law_ask [] 1 (dCons (dVar 6) (dCons (dVar 2) dNil))) (dCons (dTuple (dCons (dVar 2) dNil)) dNil))))) b_law_7l_0a_0 dNx
def b_law_7l_1a_0 : DS := dRet (dC (.bl false))
def b_law_7l_1 : DS := dW [6] (dIf (tNotD (dTru (dCall 2 (f__law_same 6) [] none (dCons (dCallB 2 f__law_ask [] 1 (dCons (dVar 6) (dCons (dVar 5) dNil))) (dCons (dLst (dCons (dC (.str "refused")) (dCons (dTuple (dCons (dVar 5) dNil)) (dCons (dC (.bl true)) dNil)))) dNil))))) b_law_7l_1a_0 dNx)
def b_law_7l : DS := dW [6] ((dSeq b_law_7l_0 b_law_7l_1))
def b_law_7 : DS := dW [5, 6] (dFor (itRng1 (dCons (dC (.int 2)) dNil)) (.nm 6) b_law_7l)
def b_law_8a_0 : DS := dRet (dC (.bl false))
def b_law_8 : DS := dIf ((tOrD (tNotD (dTru (dCall 2 (f__law_same 6) [] none (dCons (dFld "Rule" "terms" (dSMeth "Rule" f_Rule_ascending (dC (.gl "Rule")) dNil)) (dCons (dTup dNil) dNil))))) (tNotD (dTru (dCall 2 (f__law_same 6) [] none (dCons (dFld "Rule" "terms" (dCMeth "Rule" (padD 2 [] f_Rule_listed) (dC (.gl "Rule")) (dCons (dLst dNil) dNil))) (dCons (dTup dNil) dNil))))))) b_law_8a_0 dNx
def b_law_c1e : DX := (dIx (dVar 13) (dC (.int 0)))
def b_law_c1 : DX := dLc (itSeq (dVar 2)) (.nm 13) tYesD (b_law_c1e) [13]
def b_law_9 : DS := dSet 7 ((b_law_c1))
def b_law_c2e : DX := (dTup (dCons (dVar 14) (dCons (dC (.int 1)) dNil)))
def b_law_c2 : DX := dLcO 7 (.nm 14) tYesD (b_law_c2e) [14]
def b_law_10a_0 : DS := dRet (dC (.bl false))
def b_law_10 : DS := dIf (tNotD (dTru (dCall 2 (f__law_same 6) [] none (dCons (dCallB 2 f__law_ask [] 1 (dCons (dC (.int 2)) (dCons (dVar 7) dNil))) (dCons (dTuple (dCons ((b_law_c2)) dNil)) dNil))))) b_law_10a_0 dNx
def b_law_11 : DS := dW [3] (dSetIx 7 (dVar 3) (dIx (dLst (dCons (dC (.int 8)) (dCons (dNeg (dC (.int 1))) (dCons (dIx (dVar 7) (dSub (dVar 3) (dC (.int 1)))) (dCons (dPow (dC (.int 10)) (dC (.int 20))) (dCons (dC (.bl true)) (dCons (dC .non) dNil))))))) (dCall 2 f__law_take [] (some 0) (dCons (dVar 1) (dCons (dC (.int 6)) dNil)))))
def b_law_c3e : DX := (dTup (dCons (dVar 14) (dCons (dC (.int 1)) dNil)))
def b_law_c3 : DX := dLcO 7 (.nm 14) tYesD (b_law_c3e) [14]
def b_law_12 : DS := dFz [8] (dSet 8 (dTuple (dCons ((b_law_c3)) dNil)))
def b_law_13a_0 : DS := dRet (dC (.bl false))
def b_law_13 : DS := dW [7, 8] (dIf (tNotD (dTru (dCall 2 (f__law_same 6) [] none (dCons (dCallB 2 f__law_ask [] 1 (dCons (dC (.int 2)) (dCons (dVar 7) dNil))) (dCons (dLst (dCons (dC (.str "refused")) (dCons (dVar 8) (dCons (dC (.bl true)) dNil)))) dNil))))) b_law_13a_0 dNx)
def b_law_14l_0l_0a_0 : DS := dRet (dC (.bl false))
def b_law_14l_0l_0 : DS := dW [6] (dIf (tNotD (dTru (dCall 2 (f__law_same 6) [] none (dCons (dCallB 2 f__law_ask [] 1 (dCons (dVar 6) (dCons (dLst (dCons (dIx (dVar 2) (dC (.int 1))) (dCons (dVar 9) (dCons (dIx (dVar 2) (dC (.int 2))) dNil)))) dNil))) (dCons (dLst (dCons (dC (.str "refused")) (dCons (dTup (dCons (dIx (dVar 2) (dC (.int 1))) (dCons (dVar 9) (dCons (dIx (dVar 2) (dC (.int 2))) dNil)))) (dCons (dC (.bl true)) dNil)))) dNil))))) b_law_14l_0l_0a_0 dNx)
def b_law_14l_0l : DS := dW [6] (b_law_14l_0l_0)
def b_law_14l_0 : DS := dW [6, 9] (dFor (itRng1 (dCons (dC (.int 2)) dNil)) (.nm 6) b_law_14l_0l)
def b_law_14l : DS := dW [6, 9] (b_law_14l_0)
def b_law_14 : DS := dW [2, 6, 9] (dFor (itSeq (dLst (dCons (dTup (dCons (dLst (dCons (dC (.int 0)) dNil)) (dCons (dC (.int 1)) dNil))) (dCons (dTup (dCons (dC (.int 0)) (dCons (dLst (dCons (dC (.int 1)) dNil)) dNil))) (dCons (dLst (dCons (dIx (dVar 2) (dC (.int 0))) dNil)) dNil))))) (.nm 9) b_law_14l)
def b_law_15 : DS := dSet 10 (dCall 2 f__law_rule [] (some 0) (dCons (dVar 1) (dCons (dC (.int 8)) dNil)))
def b_law_16a_0 : DS := dRet (dC (.bl false))
def b_law_16 : DS := dIf (tNotD (dTru (dCall 2 (f__law_same 6) [] none (dCons (dCallB 2 f__law_ask [] 1 (dCons (dC (.int 1)) (dCons (dVar 10) dNil))) (dCons (dTuple (dCons (dVar 10) dNil)) dNil))))) b_law_16a_0 dNx
def b_law_17 : DS := dFz [11] (dSet 11 (dCall 2 f__law_take [] (some 0) (dCons (dVar 1) (dCons (dC (.int 8)) dNil))))
def b_law_18 : DS := dW [1] (dFz [12] (dSet 12 (dMod (dInt (dCons (dOp2 (by2 addD) (dOp2 (by2 addD) (dVar 11) (dC (.int 1))) (dCall 2 f__law_take [] (some 0) (dCons (dVar 1) (dCons (dC (.int 7)) dNil)))) dNil)) (dC (.int 8)))))
def b_law_19 : DS := dW [11, 12] (dSetIx 10 (dVar 12) (dTup (dCons (dIx (dIx (dVar 10) (dVar 11)) (dC (.int 0))) (dCons (dIx (dIx (dVar 10) (dVar 12)) (dC (.int 1))) dNil))))
def b_law_20 : DS := dRet (dCall 2 (f__law_same 6) [] none (dCons (dCallB 2 f__law_ask [] 1 (dCons (dC (.int 1)) (dCons (dVar 10) dNil))) (dCons (dLst (dCons (dC (.str "refused")) (dCons (dTuple (dCons (dVar 10) dNil)) (dCons (dC (.bl true)) dNil)))) dNil)))
def b_law : DS := (dSeq b_law_0 (dSeq b_law_1 (dSeq b_law_2 (dSeq b_law_3 (dSeq b_law_4 (dSeq b_law_5 (dSeq b_law_6 (dSeq b_law_7 (dSeq b_law_8 (dSeq b_law_9 (dSeq b_law_10 (dSeq b_law_11 (dSeq b_law_12 (dSeq b_law_13 (dSeq b_law_14 (dSeq b_law_15 (dSeq b_law_16 (dSeq b_law_17 (dSeq b_law_18 (dSeq b_law_19 b_law_20))))))))))))))))))))
def f_law : FnD := runD 15 b_law
end Lw

namespace Lw
open PySem L2 Dl PySem.Spec PyProof.Rows
/-! ### the script as a source of numbers -/
structure Bx where
  cells : List Int
  pos : Nat
  carry : Nat
  state : Nat
  h : state < 2147483647
def Bx.enc (b : Bx) : List D := [.lst (b.cells.map .int), .int b.pos, .int b.carry, .int b.state]
def bx0 (ns : List Int) : Bx := ⟨ns.take 63, 0, 0, 1, by decide⟩
theorem cut_to (xs : List D) (k : Nat) : cutG xs none (some (k : Int)) = xs.take k := by
  unfold cutG
  rw [HT.sIx_none, HT.sIx_nat]
  simp
@[simp] theorem box_eq (ns : List Int) : f__law_box [.val (.scr (ns.map .int))] = .ok (.new (bx0 ns).enc) [none] := by
  have e := cut_to (ns.map .int) 63
  have e2 : cutG (ns.map D.int) none (some 63) = (ns.take 63).map D.int := by rw [List.map_take]; exact e
  refine run_rt (r := .tmp (bx0 ns).enc) (st := [some (.val (.scr (ns.map .int)))]) ?_ rfl rfl
  simp [b__law_box, b__law_box_0, startD, Arg.toS, slD, e2, Bx.enc, bx0]
theorem log_small {s : Nat} (h3 : s < 2147483647) (c : Int) (hc : c.natAbs < 2 ^ 64) : cMul s c = true := by
  have a1 : (s : Int).natAbs.log2 < 32 := by
    by_cases z : (s : Int).natAbs = 0
    · rw [z]; decide
    · exact (Nat.log2_lt z).mpr (by omega)
  have a2 : c.natAbs.log2 < 64 := by
    by_cases z : c.natAbs = 0
    · rw [z]; decide
    · exact (Nat.log2_lt z).mpr hc
  simp only [cMul, decide_eq_true_eq]
  omega
/-- the next cell is read -/
def Bx.rd (b : Bx) : Bx := match b.carry, b.cells[b.pos]? with
  | 0, some c => if 1000000000000000000 ≤ c then ⟨b.cells, b.pos + 1, (c - 1000000000000000000).toNat, b.state, b.h⟩ else ⟨b.cells, b.pos + 1, 0, ((b.state * 69621 + c) % 2147483647).toNat, by
      have h1 := Int.emod_nonneg (b.state * 69621 + c) (b := 2147483647) (by decide)
      have h2 := Int.emod_lt_of_pos (b.state * 69621 + c) (b := 2147483647) (by decide)
      omega⟩
  | _, _ => b
/-- what is told, and the box behind it -/
def tkV (b : Bx) (n : Nat) : Nat := if 0 < b.rd.carry then b.rd.carry % n else ((b.rd.state * 48271 + 11) % 2147483647 / 7) % n
def tkB (b : Bx) (n : Nat) : Bx := if 0 < b.rd.carry then ⟨b.rd.cells, b.rd.pos, b.rd.carry / n, b.rd.state, b.rd.h⟩ else ⟨b.rd.cells, b.rd.pos, b.rd.carry, (b.rd.state * 48271 + 11) % 2147483647, Nat.mod_lt _ (by decide)⟩
theorem tkV_lt (b : Bx) {n : Nat} (h : 0 < n) : tkV b n < n := by
  unfold tkV
  split <;> exact Nat.mod_lt _ h
theorem take0 (b : Bx) (n : Int) : b__law_take_0 [some (.bor b.enc), some (.val (.int n)), none, none] = .nx [some (.bor b.rd.enc), some (.val (.int n)), none, none] := by
  obtain ⟨cells, pos, carry, state, h3⟩ := b
  unfold Bx.rd
  simp only
  cases carry with
  | succ k =>
    have : ¬ ((k : Int) + 1 = 0) := by omega
    simp [b__law_take_0, Bx.enc, this]
  | zero =>
    cases hp : cells[pos]? with
    | none =>
      have hl : ¬ pos < cells.length := by have := List.getElem?_eq_none_iff.mp hp; omega
      simp [b__law_take_0, Bx.enc, hl]
    | some c =>
      obtain ⟨hl, hc⟩ := List.getElem?_eq_some_iff.mp hp
      by_cases hg : (1000000000000000000 : Int) ≤ c
      · have e : (((c - 1000000000000000000).toNat : Nat) : Int) = c - 1000000000000000000 := by omega
        simp [b__law_take_0, b__law_take_0a_0, b__law_take_0a_1, b__law_take_0a_2, b__law_take_0a_2a_0, Bx.enc, hl, hc, cPow, hg, ixN, e]
      · have e : ((((state * 69621 + c) % 2147483647).toNat : Nat) : Int) = (state * 69621 + c) % 2147483647 := Int.toNat_of_nonneg (Int.emod_nonneg _ (by decide))
        simp [b__law_take_0, b__law_take_0a_0, b__law_take_0a_1, b__law_take_0a_2, b__law_take_0a_2b_0, Bx.enc, hl, hc, cPow, hg, ixN, log_small h3, cPos, e]
theorem take_eq (b : Bx) (n : Int) (hn : 0 < n) (hn2 : n < 2 ^ 64) : f__law_take [.own b.enc, .val (.int n)] = .ok (.val (.int (tkV b n.toNat))) [some (tkB b n.toNat).enc, none] := by
  have e1 := take0 b n
  obtain ⟨m, rfl⟩ := Int.eq_ofNat_of_zero_le (Int.le_of_lt hn)
  simp only [Int.toNat_natCast]
  have hm : 0 < m := by omega
  have hl : (m : Int).natAbs.log2 < 9000 := by
    have : (m : Int).natAbs.log2 < 64 := (Nat.log2_lt (by omega)).mpr (by omega)
    omega
  unfold tkV tkB
  by_cases hc : 0 < b.rd.carry
  · simp only [hc, if_true]
    refine run_rt (r := .val (.int ((b.rd.carry % m : Nat) : Int))) (st := [some (.bor (Bx.enc ⟨b.rd.cells, b.rd.pos, b.rd.carry / m, b.rd.state, b.rd.h⟩)), none, none, none]) ?_ rfl rfl
    show b__law_take [some (.bor b.enc), some (.val (.int m)), none, none] = _
    rw [b__law_take, seq_nx e1]
    simp at hl
    simp [b__law_take_1, b__law_take_1a_0, b__law_take_1a_1, b__law_take_1a_2, Bx.enc, hc, cPos, hm, cDiv, hl, ixN]
  · simp only [hc, if_false]
    have l7 : Nat.log2 7 < 9000 := by decide
    refine run_rt (r := .val (.int (((b.rd.state * 48271 + 11) % 2147483647 / 7 % m : Nat) : Int))) (st := [some (.bor (Bx.enc ⟨b.rd.cells, b.rd.pos, b.rd.carry, (b.rd.state * 48271 + 11) % 2147483647, Nat.mod_lt _ (by decide)⟩)), some (.val (.int m)), none, none]) ?_ rfl rfl
    show b__law_take [some (.bor b.enc), some (.val (.int m)), none, none] = _
    rw [b__law_take, seq_nx e1]
    have z := b.rd.h
    simp at hl
    simp [l7, b__law_take_1, b__law_take_2, b__law_take_3, Bx.enc, hc, cPos, hm, cDiv, ixN, log_small z]
@[simp] theorem take_nat (b : Bx) (n : Nat) (hn : 0 < n) (hn2 : n < 2 ^ 64) : f__law_take [.own b.enc, .val (.int (n : Int))] = .ok (.val (.int (tkV b n))) [some (tkB b n).enc, none] := by
  have := take_eq b (n : Int) (by omega) (by omega)
  simpa using this
/-- a written size -/
@[simp] theorem take_lit (b : Bx) (n : Nat) (hn : 0 < n) (hn2 : n < 2 ^ 64) : f__law_take [.own b.enc, .val (.int (no_index (OfNat.ofNat n)))] = .ok (.val (.int (tkV b n))) [some (tkB b n).enc, none] := take_nat b n hn hn2
example (b : Bx) : f__law_take [.own b.enc, .val (.int 9)] = .ok (.val (.int (tkV b 9))) [some (tkB b 9).enc, none] := by simp

/-! ### what is told and what is due are the same -/
def Pl : Nat → D → Prop
  | _ + 1, .non => True
  | _ + 1, .bl _ => True
  | _ + 1, .int _ => True
  | _ + 1, .str s => PyData.strOk s = true
  | n + 1, .tup xs => xs.length ≤ lim ∧ ∀ x ∈ xs, Pl n x
  | n + 1, .lst xs => xs.length ≤ lim ∧ ∀ x ∈ xs, Pl n x
  | _, _ => False
section
variable {n : Nat} {b : Bool} {i : Int} {s : Str} {xs : List D}
@[simp] theorem pl_non : Pl (n + 1) .non = True := rfl
@[simp] theorem pl_bl : Pl (n + 1) (.bl b) = True := rfl
@[simp] theorem pl_int : Pl (n + 1) (.int i) = True := rfl
@[simp] theorem pl_str : Pl (n + 1) (.str s) = (PyData.strOk s = true) := rfl
@[simp] theorem pl_tup : Pl (n + 1) (.tup xs) = (xs.length ≤ lim ∧ ∀ x ∈ xs, Pl n x) := rfl
@[simp] theorem pl_lst : Pl (n + 1) (.lst xs) = (xs.length ≤ lim ∧ ∀ x ∈ xs, Pl n x) := rfl
end
theorem same_seq {n : Nat} {d : D} {xs : List D} (hd : d = .tup xs ∨ d = .lst xs) (hl : xs.length ≤ lim) (ih : ∀ x ∈ xs, f__law_same n [.val x, .val x] = .ok (.val (.bl true)) [none, none]) : f__law_same (n + 1) [.val d, .val d] = .ok (.val (.bl true)) [none, none] := by
  have hi : itRng1 (dCons (dLen (dCons (dVar 1) dNil)) dNil) [some (.val d), some (.val d), none] = .ok ((List.range xs.length).map fun (i : Nat) => D.int (i : Int)) [some (.val d), some (.val d), none] := by
    rw [← rngD_map]
    exact rng1_eq (r := .val (.int xs.length)) (n := xs.length) (by rcases hd with rfl | rfl <;> rfl) rfl (small_len hl)
  have hloop : loopD (.nm 2) (b__law_same_6l (f__law_same n)) ((List.range xs.length).map fun (i : Nat) => D.int (i : Int)) [some (.val d), some (.val d), none] = .nx [some (.val d), some (.val d), none] := by
    refine loop_same _ fun i hi => ?_
    have hi' : i < xs.length := by simpa using hi
    have e2 : xs[i]? = some xs[i] := by simp [hi']
    have e3 := ih xs[i] (by simp)
    rcases hd with rfl | rfl <;> simp [stepL, b__law_same_6l, b__law_same_6l_0, e2, e3]
  have e6 : b__law_same_6 (f__law_same n) [some (.val d), some (.val d), none] = .nx [some (.val d), some (.val d), none] := by
    unfold b__law_same_6
    simp only [ev_W, ev_for, ev_toFl, hi, hloop]
    rfl
  have pre : ∀ g : DS, dSeq (b__law_same_0 (f__law_same n)) (dSeq (b__law_same_1 (f__law_same n)) (dSeq (b__law_same_2 (f__law_same n)) (dSeq (b__law_same_3 (f__law_same n)) (dSeq (b__law_same_4 (f__law_same n)) (dSeq (b__law_same_5 (f__law_same n)) g))))) [some (.val d), some (.val d), none] = g [some (.val d), some (.val d), none] := by
    intro g
    rcases hd with rfl | rfl <;> simp [b__law_same_0, b__law_same_1, b__law_same_2, b__law_same_3, b__law_same_4, b__law_same_5, isD, isiB]
  refine run_rt (r := .val (.bl true)) (st := [some (.val d), some (.val d), none]) ?_ rfl rfl
  refine (pre _).trans ?_
  rw [seq_nx e6]
  rfl
theorem same_refl : ∀ (n : Nat) (d : D), Pl n d → f__law_same n [.val d, .val d] = .ok (.val (.bl true)) [none, none]
  | 0, _, h => by simp [Pl] at h
  | n + 1, .non, _ => run_rt (r := .val (.bl true)) (st := [some (.val .non), some (.val .non), none]) (by simp [b__law_same, b__law_same_0, b__law_same_0a_0, startD, Arg.toS, isD]) rfl rfl
  | n + 1, .bl b, _ => run_rt (r := .val (.bl true)) (st := [some (.val (.bl b)), some (.val (.bl b)), none]) (by simp [b__law_same, b__law_same_0, b__law_same_1, b__law_same_1a_0, startD, Arg.toS, isD, isiB]) rfl rfl
  | n + 1, .int b, _ => run_rt (r := .val (.bl true)) (st := [some (.val (.int b)), some (.val (.int b)), none]) (by simp [b__law_same, b__law_same_0, b__law_same_1, b__law_same_2, b__law_same_2a_0, startD, Arg.toS, isD, isiB]) rfl rfl
  | n + 1, .str b, h => run_rt (r := .val (.bl true)) (st := [some (.val (.str b)), some (.val (.str b)), none]) (by
      have h' : PyData.strOk b = true := h
      simp [b__law_same, b__law_same_0, b__law_same_1, b__law_same_2, b__law_same_3, b__law_same_3a_0, startD, Arg.toS, isD, isiB, h']) rfl rfl
  | n + 1, .tup xs, h => by
    simp only [pl_tup] at h
    exact same_seq (.inl rfl) h.1 fun x hx => same_refl n x (h.2 x hx)
  | n + 1, .lst xs, h => by
    simp only [pl_lst] at h
    exact same_seq (.inr rfl) h.1 fun x hx => same_refl n x (h.2 x hx)
  | n + 1, .ty _, h => by simp [Pl] at h
  | n + 1, .scr _, h => by simp [Pl] at h
  | n + 1, .gl _, h => by simp [Pl] at h
  | n + 1, .obj _ _ _, h => by simp [Pl] at h
  | n + 1, .dic _ _, h => by simp [Pl] at h
@[simp] theorem same_eq (d : D) (h : Pl 6 d) : f__law_same 6 [.val d, .val d] = .ok (.val (.bl true)) [none, none] := same_refl 6 d h

/-! ### rules -/
/-! ### rules -/
def eT (t : Nat × Int) : D := .tup [.int t.1, .int t.2]
@[simp] theorem eT_eq (t : Nat × Int) : eT t = .tup [.int t.1, .int t.2] := rfl
def OkT (t : Nat × Int) : Prop := t.1 < 8 ∧ (t.2 = 1 ∨ t.2 = -1)
def OkR (ts : List (Nat × Int)) : Prop := (ts.map (·.1)).Nodup ∧ ∀ t ∈ ts, OkT t
theorem OkR.len {ts : List (Nat × Int)} (h : OkR ts) : ts.length ≤ 8 := by
  have h1 : ∀ m ∈ ts.map (·.1), m ∈ List.range 8 := fun m hm => by
    obtain ⟨t, ht, rfl⟩ := List.mem_map.mp hm
    exact List.mem_range.mpr (h.2 t ht).1
  have := List.Nodup.length_le_of_subset h.1 h1
  simpa using this
theorem OkR.limL {ts : List (Nat × Int)} (h : OkR ts) : ts.length ≤ lim := by
  have := h.len
  have : lim = 100000 := rfl
  omega
theorem OkR.sub {a b : List (Nat × Int)} (h : OkR b) (s : a.Sublist b) : OkR a := ⟨List.Nodup.sublist (s.map _) h.1, fun t ht => h.2 t (s.subset ht)⟩
def rD (ts : List (Nat × Int)) : D := .obj "Rule" ["terms"] [.tup (ts.map eT)]
theorem lim_le {n : Nat} (h : n ≤ 100000) : n ≤ lim := h
abbrev nI : Nat → D := fun n => D.int (n : Int)
theorem any_nat (ms : List Nat) (m : Nat) : ((ms.map fun n : Nat => D.int (n : Int)).any fun z => deq z (.int (m : Int))) = ms.contains m := by
  induction ms with
  | nil => rfl
  | cons a ms ih =>
    rw [List.map_cons, List.any_cons, ih, List.contains_cons, deq_int]
    congr 1
    rw [Bool.eq_iff_iff]
    simp
    omega
theorem deqL_eT (a b : List (Nat × Int)) : deqL (a.map eT) (b.map eT) = (a == b) := deqL_map (fun x y => by
  rw [Bool.eq_iff_iff]
  simp [Prod.ext_iff, Int.ofNat_inj]) a b
theorem gd_eT (ts : List (Nat × Int)) (n : Nat) : ∀ x ∈ ts.map eT, Gd (n + 1) x := fun x hx => by
  obtain ⟨t, _, rfl⟩ := List.mem_map.mp hx
  simp
theorem pl_eT (ts : List (Nat × Int)) (n : Nat) : ∀ x ∈ ts.map eT, Pl (n + 2) x := fun x hx => by
  obtain ⟨t, _, rfl⟩ := List.mem_map.mp hx
  simp
theorem gdI {n : Nat} {i : Int} : Gd n (.int i) := by rw [gd_int]; trivial
theorem gd_marks (ts : List (Nat × Int)) (n : Nat) : ∀ x ∈ ts.map fun t => nI t.1, Gd n x := fun x hx => by
  obtain ⟨t, _, rfl⟩ := List.mem_map.mp hx
  simp
theorem any_marks (ts : List (Nat × Int)) (m : Nat) : ((ts.map fun t => nI t.1).any fun z => deq z (.int (m : Int))) = (ts.map (·.1)).contains m := by
  have := any_nat (ts.map (·.1)) m
  rwa [List.map_map] at this
theorem pl_tupT {ts : List (Nat × Int)} (h : OkR ts) (n : Nat) : Pl (n + 3) (.tup (ts.map eT)) := by
  rw [pl_tup]
  exact ⟨by simpa using h.limL, pl_eT ts n⟩
theorem pl_tupM {ts : List (Nat × Int)} (h : OkR ts) (n : Nat) : Pl (n + 2) (.tup (ts.map fun t => nI t.1)) := by
  rw [pl_tup]
  refine ⟨by simpa using h.limL, fun x hx => ?_⟩
  obtain ⟨t, _, rfl⟩ := List.mem_map.mp hx
  simp

@[simp] theorem is_integer_i (i : Int) : f_is_integer [.val (.int i)] = .ok (.val (.bl true)) [none] := by
  simp [f_is_integer, runD, startD, Arg.toS, b_is_integer, b_is_integer_0, retOf, outsOf, isiB]
@[simp] theorem is_term_t (m d n : Int) : f_is_term [.val (.tup [.int m, .int d]), .val (.int n)] = .ok (.val (.bl (decide (0 ≤ m) && decide (m < n) && (d == 1 || d == -1)))) [none, none] := by
  simp [f_is_term, runD, startD, Arg.toS, b_is_term, b_is_term_0, b_is_term_1, b_is_term_2, b_is_term_3, retOf, outsOf, isiB, Bool.and_assoc]
  rfl
theorem rule_loop (S : DSt) : ∀ (ts : List (Nat × Int)) (ms : List Nat), ((ms ++ ts.map (·.1)).Nodup) → (∀ t ∈ ts, OkT t) → ms.length + ts.length ≤ lim → ∀ x y,
    loopD (.nm 3) b_Rule___init___1l (ts.map eT) [x, some (.val y), some (.own (ms.map fun n : Nat => D.int (n : Int))), none] = .nx [x, some (.val y), some (.own ((ms ++ ts.map (·.1)).map fun n : Nat => D.int (n : Int))), none]
  | [], ms, _, _, _, x, y => by simp [loopD]
  | t :: ts, ms, hn, ho, hl, x, y => by
    simp only [List.length_cons] at hl
    obtain ⟨h8, hd⟩ := ho t (by simp)
    have hm : ms.contains t.1 = false := by
      rw [Bool.eq_false_iff]
      intro z
      have z' : t.1 ∈ ms := by simpa using z
      rw [List.map_cons, List.nodup_append] at hn
      exact hn.2.2 t.1 z' t.1 (by simp) rfl
    have e := any_nat ms t.1
    rw [hm] at e
    have hl2 : ms.length < lim := by omega
    have hd2 : (t.2 == 1 || t.2 == -1) = true := by rcases hd with h | h <;> simp [h]
    have h9 : (t.1 : Int) < 8 := by omega
    rw [List.map_cons, loop_cons]
    have st : stepL (.nm 3) b_Rule___init___1l (eT t) [x, some (.val y), some (.own (ms.map fun n : Nat => D.int (n : Int))), none] = .nx [x, some (.val y), some (.own ((ms ++ [t.1]).map fun n : Nat => D.int (n : Int))), none] := by
      simp [stepL, b_Rule___init___1l, b_Rule___init___1l_0, b_Rule___init___1l_1, h9, hd2, e, hl2]
    rw [st]
    have := rule_loop S ts (ms ++ [t.1]) (by simpa using hn) (fun u hu => ho u (by simp [hu])) (by simp; omega) x y
    simp only
    rw [this]
    simp
@[simp] theorem rule_init (ts : List (Nat × Int)) (h : OkR ts) : f_Rule___init__ (ts.map eT) = .ok ["terms"] [.tup (ts.map eT)] := by
  have hl := h.limL
  have lp := rule_loop [] ts [] (by simpa using h.1) h.2 (by simpa using hl) (some (.slf "Rule" [] [])) (.tup (ts.map eT))
  simp only [List.map_nil, List.nil_append] at lp
  simp [f_Rule___init__, ev_starI, hl, runI, startI, startD, Arg.toS, b_Rule___init__, b_Rule___init___0, b_Rule___init___1, b_Rule___init___2, lp, putSelf, noSlf, selfOf]

theorem rule_listed (ts : List (Nat × Int)) (h : OkR ts) : f_Rule_listed [.val (.gl "Rule"), .val (.lst (ts.map eT))] = .ok (.val (rD ts)) [none, none] := by
  simp [f_Rule_listed, runD, startD, Arg.toS, b_Rule_listed, b_Rule_listed_0, h, rD, retOf, outsOf]

def ngT (ts : List (Nat × Int)) : List (Nat × Int) := ts.map fun t => (t.1, -t.2)
theorem OkR.ng {ts : List (Nat × Int)} (h : OkR ts) : OkR (ngT ts) := by
  refine ⟨?_, fun t ht => ?_⟩
  · have : (ngT ts).map (·.1) = ts.map (·.1) := by simp [ngT]
    rw [this]; exact h.1
  · obtain ⟨u, hu, rfl⟩ := List.mem_map.mp ht
    obtain ⟨h1, h2⟩ := h.2 u hu
    exact ⟨h1, by rcases h2 with h2 | h2 <;> simp [h2]⟩
def nwT (a b : List (Nat × Int)) : List (Nat × Int) := b.filter fun t => !(a.map (·.1)).contains t.1
def jnT (a b : List (Nat × Int)) : List (Nat × Int) := a ++ nwT a b
theorem OkR.jn {a b : List (Nat × Int)} (ha : OkR a) (hb : OkR b) : OkR (jnT a b) := by
  refine ⟨?_, fun t ht => ?_⟩
  · rw [jnT, List.map_append, List.nodup_append]
    refine ⟨ha.1, List.Nodup.sublist (List.Sublist.map _ List.filter_sublist) hb.1, ?_⟩
    rintro x hx y hy rfl
    obtain ⟨t, ht, rfl⟩ := List.mem_map.mp hy
    have := (List.mem_filter.mp ht).2
    simp only [Bool.not_eq_true', List.contains_eq_mem, decide_eq_false_iff_not] at this
    exact this hx
  · rcases List.mem_append.mp ht with h | h
    · exact ha.2 t h
    · exact hb.2 t (List.mem_filter.mp h).1
/-! ### a rule is drawn -/
structure RlS where
  b : Bx
  left : List Nat
  ts : List (Nat × Int)
def RlS.nx (s : RlS) : RlS := ⟨tkB (tkB s.b s.left.length) 2, s.left.eraseIdx (tkV s.b s.left.length), s.ts ++ [(s.left.getD (tkV s.b s.left.length) 0, 1 - 2 * (tkV (tkB s.b s.left.length) 2 : Int))]⟩
def RlS.go : Nat → RlS → RlS
  | 0, s => s
  | n + 1, s => RlS.go n s.nx
def RlS.Ok (n : Nat) (s : RlS) : Prop := (s.ts.map (·.1) ++ s.left).Nodup ∧ (∀ m ∈ s.ts.map (·.1) ++ s.left, m < n) ∧ (∀ t ∈ s.ts, t.2 = 1 ∨ t.2 = -1) ∧ s.ts.length + s.left.length = n
theorem eraseIdx_perm {α : Type} : ∀ (l : List α) (i : Nat) (h : i < l.length), l.Perm (l[i] :: l.eraseIdx i)
  | a :: l, 0, h => by simp
  | a :: l, i + 1, h => by
    have := eraseIdx_perm l i (by simpa using h)
    simp only [List.getElem_cons_succ, List.eraseIdx_cons_succ]
    exact (this.cons a).trans (List.Perm.swap _ _ _)
theorem RlS.Ok.nx {n : Nat} {s : RlS} (h : s.Ok n) (hl : 0 < s.left.length) : s.nx.Ok n := by
  obtain ⟨h1, h2, h3, h4⟩ := h
  have ht := tkV_lt s.b hl
  have eg : s.left.getD (tkV s.b s.left.length) 0 = s.left[tkV s.b s.left.length] := by simp [ht]
  have pm : (s.nx.ts.map (·.1) ++ s.nx.left).Perm (s.ts.map (·.1) ++ s.left) := by
    simp only [RlS.nx, List.map_append, List.map_cons, List.map_nil, eg, List.append_assoc, List.singleton_append]
    exact List.Perm.append_left _ (eraseIdx_perm _ _ ht).symm
  refine ⟨pm.nodup_iff.mpr h1, fun m hm => h2 m (pm.mem_iff.mp hm), fun t ht => ?_, ?_⟩
  · simp only [RlS.nx, List.mem_append, List.mem_singleton] at ht
    rcases ht with ht | rfl
    · exact h3 t ht
    · have := tkV_lt (tkB s.b s.left.length) (n := 2) (by decide)
      simp only
      omega
  · have := pm.length_eq
    simp at this
    omega
theorem RlS.Ok.go {n : Nat} : ∀ (k : Nat) {s : RlS}, s.Ok n → k ≤ s.left.length → (s.go k).Ok n ∧ (s.go k).ts.length = s.ts.length + k
  | 0, s, h, _ => ⟨h, rfl⟩
  | k + 1, s, h, hl => by
    have ht := tkV_lt s.b (n := s.left.length) (by omega)
    have hl2 : s.nx.left.length = s.left.length - 1 := by simp [RlS.nx, List.length_eraseIdx, ht]
    obtain ⟨a, b⟩ := RlS.Ok.go k (h.nx (by omega)) (by omega)
    refine ⟨a, ?_⟩
    show (RlS.go k s.nx).ts.length = _
    rw [b]
    simp [RlS.nx]
    omega
def rl0 (b : Bx) (n : Nat) : RlS := ⟨b, List.range n, []⟩
theorem rl0_ok (b : Bx) (n : Nat) : (rl0 b n).Ok n := by
  refine ⟨by simpa [rl0] using List.nodup_range, fun m hm => by simpa [rl0] using hm, fun t ht => by simp [rl0] at ht, by simp [rl0]⟩
def ruT (b : Bx) (n : Nat) : List (Nat × Int) := ((rl0 b n).go n).ts
def ruB (b : Bx) (n : Nat) : Bx := ((rl0 b n).go n).b
theorem ruT_len (b : Bx) (n : Nat) : (ruT b n).length = n := by
  have := ((rl0_ok b n).go n (by simp [rl0])).2
  simpa [ruT, rl0] using this
theorem ruT_ok (b : Bx) {n : Nat} (h : n ≤ 8) : OkR (ruT b n) := by
  obtain ⟨h1, h2, h3, h4⟩ := ((rl0_ok b n).go n (by simp [rl0])).1
  refine ⟨(List.nodup_append.mp h1).1, fun t ht => ⟨?_, h3 t ht⟩⟩
  have := h2 t.1 (List.mem_append_left _ (List.mem_map_of_mem ht))
  omega
theorem rlS_fold (l : List Nat) (s : RlS) : l.foldl (fun (s : RlS) _ => s.nx) s = s.go l.length := by
  induction l generalizing s with
  | nil => rfl
  | cons a l ih => exact ih s.nx
theorem eraseIdx_map' {α β : Type} (f : α → β) : ∀ (l : List α) (i : Nat), (l.map f).eraseIdx i = (l.eraseIdx i).map f
  | [], i => by simp
  | a :: l, 0 => by simp
  | a :: l, i + 1 => by simp [eraseIdx_map' f l i]
theorem rule_turn (n : Int) (s : RlS) (a : Nat) (hl : 0 < s.left.length) (hh : s.left.length ≤ 1000) (ht : s.ts.length < 1000) : stepL (.nm 4) b__law_rule_2l (nI a) [some (.bor s.b.enc), some (.val (.int n)), some (.own (s.left.map nI)), some (.own (s.ts.map eT)), none, none] = .nx [some (.bor s.nx.b.enc), some (.val (.int n)), some (.own (s.nx.left.map nI)), some (.own (s.nx.ts.map eT)), none, none] := by
  have tv := tkV_lt s.b hl
  have l1 : ixN s.left.length (tkV s.b s.left.length : Int) = some (tkV s.b s.left.length) := ixN_nat tv
  have l2 : smallI (tkV s.b s.left.length : Int) = true := small_lt (by omega) (by omega)
  have l3 : s.ts.length < lim := by have : lim = 100000 := rfl; omega
  have l4 := take_nat s.b s.left.length hl (by omega)
  have tw := tkV_lt (tkB s.b s.left.length) (n := 2) (by decide)
  have l5 : cMul 2 (tkV (tkB s.b s.left.length) 2 : Int) = true := by
    have : tkV (tkB s.b s.left.length) 2 = 0 ∨ tkV (tkB s.b s.left.length) 2 = 1 := by omega
    rcases this with h | h <;> rw [h] <;> decide
  simp [stepL, b__law_rule_2l, b__law_rule_2l_0, b__law_rule_2l_1, RlS.nx, l1, l2, l3, l4, l5, tv, popOp, eraseIdx_map']
theorem law_rule_s2 (b : Bx) (n : Nat) (hn : n ≤ 8) : b__law_rule_2 [some (.bor b.enc), some (.val (.int (n : Int))), some (.own ((List.range n).map nI)), some (.own []), none, none] = .nx [some (.bor (ruB b n).enc), some (.val (.int (n : Int))), none, some (.own ((ruT b n).map eT)), none, none] := by
  have lp := loop_fold (t := .nm 4) (body := b__law_rule_2l) (e := nI) (fun s : RlS => [some (.bor s.b.enc), some (.val (.int (n : Int))), some (.own (s.left.map nI)), some (.own (s.ts.map eT)), none, none]) (fun s _ => s.nx) (fun r s => s.Ok n ∧ r.length ≤ s.left.length) (List.range n) (rl0 b n) ⟨rl0_ok b n, by simp [rl0]⟩ (by
    rintro a r s ⟨h1, h2⟩
    simp only [List.length_cons] at h2
    obtain ⟨_, _, _, h4⟩ := id h1
    have ht := tkV_lt s.b (n := s.left.length) (by omega)
    exact ⟨⟨h1.nx (by omega), by simp [RlS.nx, List.length_eraseIdx, ht]; omega⟩, rule_turn n s a (by omega) (by omega) (by omega)⟩)
  rw [rlS_fold, List.length_range] at lp
  have hi : itRng1 (dCons (dVar 1) dNil) [some (.bor b.enc), some (.val (.int (n : Int))), some (.own ((List.range n).map nI)), some (.own []), none, none] = .ok ((List.range n).map nI) [some (.bor b.enc), some (.val (.int (n : Int))), some (.own ((List.range n).map nI)), some (.own []), none, none] := by
    rw [← rngD_map]
    exact rng1_eq (r := .val (.int n)) (n := n) rfl rfl (small_lt (by omega) (by omega))
  have lp' : loopD (.nm 4) b__law_rule_2l ((List.range n).map nI) [some (.bor b.enc), some (.val (.int (n : Int))), some (.own ((List.range n).map nI)), some (.own []), none, none] = _ := lp
  unfold b__law_rule_2
  simp only [ev_W, ev_for, ev_toFl, hi, lp']
  rfl
theorem law_rule_s0 (b : Bx) (n : Nat) (hn : n ≤ 8) : b__law_rule_0 [some (.bor b.enc), some (.val (.int (n : Int))), none, none, none, none] = .nx [some (.bor b.enc), some (.val (.int (n : Int))), some (.own ((List.range n).map nI)), none, none, none] := by
  have l2 : lstOk (n : Int) = true := lstOk_nat (by omega)
  simp [b__law_rule_0, l2, rngD_map]
@[simp] theorem law_rule_eq (b : Bx) (n : Nat) (hn : n ≤ 8) : f__law_rule [.own b.enc, .val (.int (n : Int))] = .ok (.new ((ruT b n).map eT)) [some (ruB b n).enc, none] := by
  refine run_rt (r := .at 3) (st := [some (.bor (ruB b n).enc), some (.val (.int (n : Int))), none, some (.own ((ruT b n).map eT)), none, none]) ?_ rfl rfl
  have s1 : b__law_rule_1 [some (.bor b.enc), some (.val (.int (n : Int))), some (.own ((List.range n).map nI)), none, none, none] = .nx [some (.bor b.enc), some (.val (.int (n : Int))), some (.own ((List.range n).map nI)), some (.own []), none, none] := by
    simp [b__law_rule_1]
  rw [b__law_rule]
  refine (seq_nx (law_rule_s0 b n hn)).trans ((seq_nx s1).trans ((seq_nx (law_rule_s2 b n hn)).trans ?_))
  simp [b__law_rule_3]


/-! ### kinds, values, books -/
theorem mapS_map {σ α β γ : Type} {g : σ → α → σ} {y : σ → α → β} (h : β → γ) : ∀ (s : σ) (as : List α), (mapS g y s as).map h = mapS g (fun s a => h (y s a)) s as
  | _, [] => rfl
  | s, a :: as => by simp [mapS, mapS_map h (g s a) as]
def kdV (b : Bx) (n : Nat) : List Nat := mapS (fun b (_ : Nat) => tkB b 5) (fun b _ => tkV b 5) b (List.range n)
def kdB (b : Bx) (n : Nat) : Bx := (List.range n).foldl (fun b _ => tkB b 5) b
theorem kdV_len (b : Bx) (n : Nat) : (kdV b n).length = n := by simp [kdV, mapS_len]
theorem kdV_lt (b : Bx) (n : Nat) : ∀ k ∈ kdV b n, k < 5 := mapS_all (fun s a _ => tkV_lt s (by decide)) b
def vrows : List (List Int) := [[-1, 0, 1], [-999983, 20, 1000023], [-1000000000000, 0, 1000000000000], [-7, 0, 1000000000000], [3, 90, 91]]
def vval (k d : Nat) : Int := (vrows.getD k []).getD d 0
theorem vval_abs (k d : Nat) : (vval k d).natAbs ≤ 1000000000000 := by
  unfold vval vrows
  match k with
  | 0 => match d with | 0 | 1 | 2 => decide | d + 3 => simp
  | 1 => match d with | 0 | 1 | 2 => decide | d + 3 => simp
  | 2 => match d with | 0 | 1 | 2 => decide | d + 3 => simp
  | 3 => match d with | 0 | 1 | 2 => decide | d + 3 => simp
  | 4 => match d with | 0 | 1 | 2 => decide | d + 3 => simp
  | k + 5 => simp
def bkV (b : Bx) (ks : List Nat) : List Int := mapS (fun b (_ : Nat) => tkB b 3) (fun b k => vval k (tkV b 3)) b ks
def bkB (b : Bx) (ks : List Nat) : Bx := ks.foldl (fun b _ => tkB b 3) b
theorem bkV_len (b : Bx) (ks : List Nat) : (bkV b ks).length = ks.length := by simp [bkV, mapS_len]
theorem bkV_abs (b : Bx) (ks : List Nat) : ∀ v ∈ bkV b ks, v.natAbs ≤ 1000000000000 := mapS_all (P := fun v : Int => v.natAbs ≤ 1000000000000) (fun s a _ => vval_abs _ _) b
/-! ### compare, key -/
abbrev tI (x : List Int) : D := .tup (x.map .int)
def cmpO (x y : List Int) : List (Nat × Int) → Option Int
  | [] => none
  | t :: ts => if x.getD t.1 0 = y.getD t.1 0 then cmpO x y ts else some (if decide (x.getD t.1 0 < y.getD t.1 0) == decide (t.2 = 1) then -1 else 1)
def cmpT (ts : List (Nat × Int)) (x y : List Int) : Int := (cmpO x y ts).getD 0
def In (ts : List (Nat × Int)) (n : Nat) : Prop := ∀ t ∈ ts, t.1 < n
theorem getI {x : List Int} {i : Nat} (h : i < x.length) : (x.map D.int)[i]? = some (.int (x.getD i 0)) := by simp [h]
def keyT (ts : List (Nat × Int)) (x : List Int) : List Int := ts.map fun t => x.getD t.1 0 * t.2
theorem cMul_1 {v d : Int} (hv : v.natAbs ≤ 1000000000000) (hd : d = 1 ∨ d = -1) : cMul v d = true := by
  have a1 : v.natAbs.log2 < 64 := by
    by_cases z : v.natAbs = 0
    · rw [z]; decide
    · exact (Nat.log2_lt z).mpr (by omega)
  have a2 : d.natAbs.log2 = 0 := by rcases hd with rfl | rfl <;> decide
  simp only [cMul, decide_eq_true_eq]
  omega
theorem getD_abs {x : List Int} (h : ∀ v ∈ x, v.natAbs ≤ 1000000000000) (i : Nat) : (x.getD i 0).natAbs ≤ 1000000000000 := by
  by_cases hi : i < x.length
  · have : x.getD i 0 = x[i] := by simp [hi]
    rw [this]; exact h _ (List.getElem_mem hi)
  · have : x.getD i 0 = 0 := by simp [hi]
    rw [this]; decide
theorem key_step (u v d : Int) (hd : d = 1 ∨ d = -1) (L1 L2 E : Bool) (c : Option Int) (h1 : L1 = true ↔ c = some (-1)) (h2 : L2 = true ↔ c = some 1) (h3 : E = true ↔ c = none) :
    ((if u * d = v * d then L1 else decide (u * d < v * d)) = true ↔ (if u = v then c else some (if decide (u < v) == decide (d = 1) then -1 else 1)) = some (-1)) ∧
    ((if v * d = u * d then L2 else decide (v * d < u * d)) = true ↔ (if u = v then c else some (if decide (u < v) == decide (d = 1) then -1 else 1)) = some 1) ∧
    (((u * d == v * d) && E) = true ↔ (if u = v then c else some (if decide (u < v) == decide (d = 1) then -1 else 1)) = none) := by
  by_cases e : u = v
  · subst e
    simp [h1, h2, h3]
  · have n2 : ¬ v = u := fun z => e z.symm
    rcases hd with rfl | rfl
    · by_cases l : u < v
      · have n1 : ¬ v < u := by omega
        simp [e, l, n1, n2]
      · have n1 : v < u := by omega
        simp [e, l, n1, n2]
    · have m1 : u * -1 = -u := by omega
      have m2 : v * -1 = -v := by omega
      have n3 : ¬ (-u = -v) := by omega
      have n4 : ¬ (-v = -u) := by omega
      rw [m1, m2]
      by_cases l : u < v
      · have n1 : ¬ (-u < -v) := by omega
        have n5 : -v < -u := by omega
        simp [e, l, n1, n3, n4, n5, n2]
      · have n1 : -u < -v := by omega
        have n5 : ¬ (-v < -u) := by omega
        simp [e, l, n1, n3, n4, n5, n2]
/-- the keys tell what compare tells -/
theorem key_lt {ts : List (Nat × Int)} (ht : ∀ t ∈ ts, t.2 = 1 ∨ t.2 = -1) (x y : List Int) : (HT.lexLt (keyT ts x) (keyT ts y) = true ↔ cmpO x y ts = some (-1)) ∧ (HT.lexLt (keyT ts y) (keyT ts x) = true ↔ cmpO x y ts = some 1) ∧ ((keyT ts x == keyT ts y) = true ↔ cmpO x y ts = none) := by
  induction ts with
  | nil => simp [keyT, HT.lexLt, cmpO]
  | cons t ts ih =>
    obtain ⟨h1, h2, h3⟩ := ih fun u hu => ht u (by simp [hu])
    exact key_step (x.getD t.1 0) (y.getD t.1 0) t.2 (ht t (by simp)) _ _ _ _ h1 h2 h3
theorem cmpO_cases (x y : List Int) : ∀ ts : List (Nat × Int), cmpO x y ts = none ∨ cmpO x y ts = some (-1) ∨ cmpO x y ts = some 1
  | [] => .inl rfl
  | t :: ts => by
    simp only [cmpO]
    split
    · exact cmpO_cases x y ts
    · split
      · exact .inr (.inl rfl)
      · exact .inr (.inr rfl)
theorem cmpO_self (x : List Int) : ∀ ts : List (Nat × Int), cmpO x x ts = none
  | [] => rfl
  | t :: ts => by simp [cmpO, cmpO_self x ts]

/-! ### Rule.__init__ refuses -/
@[simp] theorem is_integer_b (b : Bool) : f_is_integer [.val (.bl b)] = .ok (.val (.bl false)) [none] := by
  simp [f_is_integer, runD, startD, Arg.toS, b_is_integer, b_is_integer_0, retOf, outsOf, isiB]
@[simp] theorem is_integer_n : f_is_integer [.val .non] = .ok (.val (.bl false)) [none] := by
  simp [f_is_integer, runD, startD, Arg.toS, b_is_integer, b_is_integer_0, retOf, outsOf, isiB]
@[simp] theorem is_integer_s (s : Str) : f_is_integer [.val (.str s)] = .ok (.val (.bl false)) [none] := by
  simp [f_is_integer, runD, startD, Arg.toS, b_is_integer, b_is_integer_0, retOf, outsOf, isiB]
@[simp] theorem is_integer_l (xs : List D) : f_is_integer [.val (.lst xs)] = .ok (.val (.bl false)) [none] := by
  simp [f_is_integer, runD, startD, Arg.toS, b_is_integer, b_is_integer_0, retOf, outsOf, isiB]
@[simp] theorem is_integer_t (xs : List D) : f_is_integer [.val (.tup xs)] = .ok (.val (.bl false)) [none] := by
  simp [f_is_integer, runD, startD, Arg.toS, b_is_integer, b_is_integer_0, retOf, outsOf, isiB]
def NoTerm (d : D) : Prop := f_is_term [.val d, .val (.int 8)] = .ok (.val (.bl false)) [none, none]
inductive BadR : List Nat → List D → Prop
  | term {ms : List Nat} {d : D} {ds : List D} : NoTerm d → BadR ms (d :: ds)
  | dup {ms : List Nat} {t : Nat × Int} {ds : List D} : OkT t → t.1 ∈ ms → BadR ms (eT t :: ds)
  | next {ms : List Nat} {t : Nat × Int} {ds : List D} : OkT t → t.1 ∉ ms → BadR (ms ++ [t.1]) ds → BadR ms (eT t :: ds)
abbrev badX (d : D) : Exn := excOf "InvalidRule" ["terms"] [d]
theorem bad_loop {x : Option S} {y : D} {ms : List Nat} {ds : List D} (h : BadR ms ds) : ms.length + ds.length ≤ lim → ∃ s, loopD (.nm 3) b_Rule___init___1l ds [x, some (.val y), some (.own (ms.map fun n : Nat => D.int (n : Int))), none] = .exc (badX y) s := by
  induction h with
  | @term ms d ds h =>
    intro hl
    rw [loop_cons]
    have h' : f_is_term [.val d, .val (.int 8)] = .ok (.val (.bl false)) [none, none] := h
    have st : stepL (.nm 3) b_Rule___init___1l d [x, some (.val y), some (.own (ms.map fun n : Nat => D.int (n : Int))), none] = .exc (badX y) (keepB [x, some (.val y), some (.own (ms.map fun n : Nat => D.int (n : Int))), some (.val d)]) := by
      simp [stepL, b_Rule___init___1l, b_Rule___init___1l_0, b_Rule___init___1l_0a_0, h']
    rw [st]
    exact ⟨_, rfl⟩
  | @dup ms t ds ho hm =>
    intro hl
    rw [loop_cons]
    obtain ⟨h8, hd⟩ := ho
    have e := any_nat ms t.1
    rw [show ms.contains t.1 = true by simpa using hm] at e
    have hd2 : (t.2 == 1 || t.2 == -1) = true := by rcases hd with h | h <;> simp [h]
    have h9 : (t.1 : Int) < 8 := by omega
    have st : stepL (.nm 3) b_Rule___init___1l (eT t) [x, some (.val y), some (.own (ms.map fun n : Nat => D.int (n : Int))), none] = .exc (badX y) (keepB [x, some (.val y), some (.own (ms.map fun n : Nat => D.int (n : Int))), some (.val (eT t))]) := by
      simp [stepL, b_Rule___init___1l, b_Rule___init___1l_0, b_Rule___init___1l_0a_0, h9, hd2, e]
    rw [st]
    exact ⟨_, rfl⟩
  | @next ms t ds ho hm hb ih =>
    intro hl
    simp only [List.length_cons] at hl
    rw [loop_cons]
    obtain ⟨h8, hd⟩ := ho
    have e := any_nat ms t.1
    rw [show ms.contains t.1 = false by simpa using hm] at e
    have hl2 : ms.length < lim := by omega
    have hd2 : (t.2 == 1 || t.2 == -1) = true := by rcases hd with h | h <;> simp [h]
    have h9 : (t.1 : Int) < 8 := by omega
    have st : stepL (.nm 3) b_Rule___init___1l (eT t) [x, some (.val y), some (.own (ms.map fun n : Nat => D.int (n : Int))), none] = .nx [x, some (.val y), some (.own ((ms ++ [t.1]).map fun n : Nat => D.int (n : Int))), none] := by
      simp [stepL, b_Rule___init___1l, b_Rule___init___1l_0, b_Rule___init___1l_1, h9, hd2, e, hl2]
    rw [st]
    exact ih (by simp; omega)
theorem rule_bad {ds : List D} (h : BadR [] ds) (hl : ds.length ≤ lim) : f_Rule___init__ ds = .exc (badX (.tup ds)) := by
  obtain ⟨s, lp⟩ := bad_loop (x := some (.slf "Rule" [] [])) (y := .tup ds) h (by simpa using hl)
  simp only [List.map_nil] at lp
  simp [f_Rule___init__, ev_starI, hl, runI, startI, startD, Arg.toS, b_Rule___init__, b_Rule___init___0, b_Rule___init___1, lp]
theorem dup_bad : ∀ {ts : List (Nat × Int)} {ms : List Nat}, (∀ t ∈ ts, OkT t) → ms.Nodup → ¬ (ms ++ ts.map (·.1)).Nodup → BadR ms (ts.map eT)
  | [], ms, _, h, n => absurd (by simpa using h) n
  | t :: ts, ms, ho, h, n => by
    by_cases hm : t.1 ∈ ms
    · exact .dup (ho t (by simp)) hm
    · refine .next (ho t (by simp)) hm (dup_bad (fun u hu => ho u (by simp [hu])) ?_ (by simpa using n))
      rw [List.nodup_append]
      exact ⟨h, by simp, fun a ha b hb => by rintro rfl; simp at hb; exact hm (hb ▸ ha)⟩

end Lw

namespace Lw
open PySem L2 Dl PySem.Spec PyProof.Rows
/-! ### _law_ask -/
theorem lkR : List.lookup (Str.ofString "InvalidRule") [(Str.ofString "ShelfError", false), (Str.ofString "InvalidRule", true), (Str.ofString "InvalidText", false)] = some true := by decide
theorem ask0 {a b c : D} (h : f_Rule___init__ [a, b, c] = .ok ["terms"] [.tup [a, b, c]]) : f__law_ask [.val (.int 0), .val (.lst [a, b, c])] = .ok (.val (.tup [a, b, c])) [none, none] := by
  simp [f__law_ask, runD, startD, Arg.toS, b__law_ask, b__law_ask_0, b__law_ask_0y, b__law_ask_0y_0, b__law_ask_0y_0a_0, h, retOf, outsOf]
theorem ask0b {a b c : D} (h : f_Rule___init__ [a, b, c] = .ok ["terms"] [.tup [a, b, c]]) : f__law_ask [.val (.int 0), .own [a, b, c]] = .ok (.val (.tup [a, b, c])) [none, some [a, b, c]] := by
  simp [f__law_ask, runD, startD, Arg.toS, b__law_ask, b__law_ask_0, b__law_ask_0y, b__law_ask_0y_0, b__law_ask_0y_0a_0, h, retOf, outsOf]
theorem ask0x {a b c : D} (h : f_Rule___init__ [a, b, c] = .exc (badX (.tup [a, b, c]))) : f__law_ask [.val (.int 0), .val (.lst [a, b, c])] = .ok (.new [.str "refused", .tup [a, b, c], .bl true]) [none, none] := by
  simp [f__law_ask, runD, startD, Arg.toS, b__law_ask, b__law_ask_0, b__law_ask_0y, b__law_ask_0y_0, b__law_ask_0y_0a_0, h, retOf, outsOf, excOf, b__law_ask_0h, b__law_ask_0h_0, lkR]
theorem ask0xb {a b c : D} (h : f_Rule___init__ [a, b, c] = .exc (badX (.tup [a, b, c]))) : f__law_ask [.val (.int 0), .own [a, b, c]] = .ok (.new [.str "refused", .tup [a, b, c], .bl true]) [none, some [a, b, c]] := by
  simp [f__law_ask, runD, startD, Arg.toS, b__law_ask, b__law_ask_0, b__law_ask_0y, b__law_ask_0y_0, b__law_ask_0y_0a_0, h, retOf, outsOf, excOf, b__law_ask_0h, b__law_ask_0h_0, lkR]
theorem ask1 {ds : List D} (hl : ds.length ≤ lim) (h : f_Rule___init__ ds = .ok ["terms"] [.tup ds]) : f__law_ask [.val (.int 1), .val (.lst ds)] = .ok (.val (.tup ds)) [none, none] := by
  simp [f__law_ask, runD, startD, Arg.toS, b__law_ask, b__law_ask_0, b__law_ask_0y, b__law_ask_0y_0, b__law_ask_0y_1, b__law_ask_0y_1a_0, f_Rule_listed, b_Rule_listed, b_Rule_listed_0, h, hl, retOf, outsOf]
theorem ask1b {ds : List D} (hl : ds.length ≤ lim) (h : f_Rule___init__ ds = .ok ["terms"] [.tup ds]) : f__law_ask [.val (.int 1), .own ds] = .ok (.val (.tup ds)) [none, some ds] := by
  simp [f__law_ask, runD, startD, Arg.toS, b__law_ask, b__law_ask_0, b__law_ask_0y, b__law_ask_0y_0, b__law_ask_0y_1, b__law_ask_0y_1a_0, f_Rule_listed, b_Rule_listed, b_Rule_listed_0, h, hl, retOf, outsOf]
theorem ask1x {ds : List D} (hl : ds.length ≤ lim) (h : f_Rule___init__ ds = .exc (badX (.tup ds))) : f__law_ask [.val (.int 1), .val (.lst ds)] = .ok (.new [.str "refused", .tup ds, .bl true]) [none, none] := by
  simp [f__law_ask, runD, startD, Arg.toS, b__law_ask, b__law_ask_0, b__law_ask_0y, b__law_ask_0y_0, b__law_ask_0y_1, b__law_ask_0y_1a_0, f_Rule_listed, b_Rule_listed, b_Rule_listed_0, h, hl, retOf, outsOf, excOf, b__law_ask_0h, b__law_ask_0h_0, lkR]
theorem ask1xb {ds : List D} (hl : ds.length ≤ lim) (h : f_Rule___init__ ds = .exc (badX (.tup ds))) : f__law_ask [.val (.int 1), .own ds] = .ok (.new [.str "refused", .tup ds, .bl true]) [none, some ds] := by
  simp [f__law_ask, runD, startD, Arg.toS, b__law_ask, b__law_ask_0, b__law_ask_0y, b__law_ask_0y_0, b__law_ask_0y_1, b__law_ask_0y_1a_0, f_Rule_listed, b_Rule_listed, b_Rule_listed_0, h, hl, retOf, outsOf, excOf, b__law_ask_0h, b__law_ask_0h_0, lkR]
abbrev up1 (d : D) : D := .tup [d, .int 1]
theorem asc_lc (ds : List D) (hl : ds.length ≤ lim) : b_Rule_ascending_c1 [some (.val (.tup ds)), none, none] = .ok (.tmp (ds.map up1)) [some (.val (.tup ds)), none, none] := by
  have := lc_maps (fi := itSeq (dVar 0)) (t := .nm 2) (ft := tYesD) (fe := b_Rule_ascending_c1e) (vs := [2]) (st0 := [some (.val (.tup ds)), none, none]) (st := [some (.val (.tup ds)), none, none]) (fun d => d) up1 (as := ds) (by simp) hl (fun d hd acc ha => by simp [compD, wipeD, unwipe, b_Rule_ascending_c1e, ha])
  exact this
theorem valsOf_map : ∀ ds : List D, valsOf (ds.map .val) = some ds
  | [] => rfl
  | d :: ds => by simp [valsOf, valsOf_map ds]
theorem asc_ok {ds : List D} (hl : ds.length ≤ lim) (h : f_Rule___init__ (ds.map up1) = .ok ["terms"] [.tup (ds.map up1)]) : f_Rule_ascending (ds.map .val) = .ok (.val (.obj "Rule" ["terms"] [.tup (ds.map up1)])) [none] := by
  have e := asc_lc ds hl
  simp [f_Rule_ascending, starD, runD, startD, Arg.toS, b_Rule_ascending, b_Rule_ascending_0, b_Rule_ascending_1, e, h, hl, retOf, outsOf, valsOf_map]
theorem asc_exc {ds : List D} (hl : ds.length ≤ lim) (h : f_Rule___init__ (ds.map up1) = .exc (badX (.tup (ds.map up1)))) : f_Rule_ascending (ds.map .val) = .exc (badX (.tup (ds.map up1))) [none] := by
  have e := asc_lc ds hl
  simp [f_Rule_ascending, starD, runD, startD, Arg.toS, b_Rule_ascending, b_Rule_ascending_0, b_Rule_ascending_1, e, h, hl, retOf, outsOf, valsOf_map]
theorem ask2 {a b c : D} (h : f_Rule___init__ [up1 a, up1 b, up1 c] = .ok ["terms"] [.tup [up1 a, up1 b, up1 c]]) : f__law_ask [.val (.int 2), .val (.lst [a, b, c])] = .ok (.val (.tup [up1 a, up1 b, up1 c])) [none, none] := by
  have e := asc_ok (ds := [a, b, c]) (lim_le (by simp)) h
  simp only [List.map_cons, List.map_nil] at e
  simp [f__law_ask, runD, startD, Arg.toS, b__law_ask, b__law_ask_0, b__law_ask_0y, b__law_ask_0y_0, b__law_ask_0y_1, b__law_ask_0y_2, e, retOf, outsOf]
theorem ask2b {a b c : D} (h : f_Rule___init__ [up1 a, up1 b, up1 c] = .ok ["terms"] [.tup [up1 a, up1 b, up1 c]]) : f__law_ask [.val (.int 2), .own [a, b, c]] = .ok (.val (.tup [up1 a, up1 b, up1 c])) [none, some [a, b, c]] := by
  have e := asc_ok (ds := [a, b, c]) (lim_le (by simp)) h
  simp only [List.map_cons, List.map_nil] at e
  simp [f__law_ask, runD, startD, Arg.toS, b__law_ask, b__law_ask_0, b__law_ask_0y, b__law_ask_0y_0, b__law_ask_0y_1, b__law_ask_0y_2, e, retOf, outsOf]
theorem ask2x {a b c : D} (h : f_Rule___init__ [up1 a, up1 b, up1 c] = .exc (badX (.tup [up1 a, up1 b, up1 c]))) : f__law_ask [.val (.int 2), .val (.lst [a, b, c])] = .ok (.new [.str "refused", .tup [up1 a, up1 b, up1 c], .bl true]) [none, none] := by
  have e := asc_exc (ds := [a, b, c]) (lim_le (by simp)) h
  simp only [List.map_cons, List.map_nil] at e
  simp [f__law_ask, runD, startD, Arg.toS, b__law_ask, b__law_ask_0, b__law_ask_0y, b__law_ask_0y_0, b__law_ask_0y_1, b__law_ask_0y_2, e, retOf, outsOf, excOf, b__law_ask_0h, b__law_ask_0h_0, lkR]
theorem ask2xb {a b c : D} (h : f_Rule___init__ [up1 a, up1 b, up1 c] = .exc (badX (.tup [up1 a, up1 b, up1 c]))) : f__law_ask [.val (.int 2), .own [a, b, c]] = .ok (.new [.str "refused", .tup [up1 a, up1 b, up1 c], .bl true]) [none, some [a, b, c]] := by
  have e := asc_exc (ds := [a, b, c]) (lim_le (by simp)) h
  simp only [List.map_cons, List.map_nil] at e
  simp [f__law_ask, runD, startD, Arg.toS, b__law_ask, b__law_ask_0, b__law_ask_0y, b__law_ask_0y_0, b__law_ask_0y_1, b__law_ask_0y_2, e, retOf, outsOf, excOf, b__law_ask_0h, b__law_ask_0h_0, lkR]
/-! ### the odd terms -/
theorem no_cnt {xs : List D} (h : xs.length ≠ 2) : NoTerm (.tup xs) := by
  have h' : ¬ (xs.length : Int) = 2 := by omega
  simp [NoTerm, f_is_term, runD, startD, Arg.toS, b_is_term, b_is_term_0, b_is_term_0a_0, retOf, outsOf, isiB, h']
theorem no_lst {xs : List D} : NoTerm (.lst xs) := by
  simp [NoTerm, f_is_term, runD, startD, Arg.toS, b_is_term, b_is_term_0, b_is_term_0a_0, retOf, outsOf, isiB]
theorem no_int {i : Int} : NoTerm (.int i) := by
  simp [NoTerm, f_is_term, runD, startD, Arg.toS, b_is_term, b_is_term_0, b_is_term_0a_0, retOf, outsOf, isiB]
theorem no_non : NoTerm .non := by
  simp [NoTerm, f_is_term, runD, startD, Arg.toS, b_is_term, b_is_term_0, b_is_term_0a_0, retOf, outsOf, isiB]
theorem no_str {s : Str} : NoTerm (.str s) := by
  simp [NoTerm, f_is_term, runD, startD, Arg.toS, b_is_term, b_is_term_0, b_is_term_0a_0, retOf, outsOf, isiB]
def NoInt (d : D) : Prop := f_is_integer [.val d] = .ok (.val (.bl false)) [none]
theorem no_fst {a b : D} (h : NoInt a) : NoTerm (.tup [a, b]) := by
  have h' : f_is_integer [.val a] = .ok (.val (.bl false)) [none] := h
  simp [NoTerm, f_is_term, runD, startD, Arg.toS, b_is_term, b_is_term_0, b_is_term_1, b_is_term_2, b_is_term_2a_0, retOf, outsOf, isiB, h']
theorem no_snd {i : Int} {b : D} (h : NoInt b) : NoTerm (.tup [.int i, b]) := by
  have h' : f_is_integer [.val b] = .ok (.val (.bl false)) [none] := h
  simp [NoTerm, f_is_term, runD, startD, Arg.toS, b_is_term, b_is_term_0, b_is_term_1, b_is_term_2, b_is_term_2a_0, retOf, outsOf, isiB, h']
theorem no_val {m d : Int} (h : (decide (0 ≤ m) && decide (m < 8) && (d == 1 || d == -1)) = false) : NoTerm (.tup [.int m, .int d]) := by
  rw [NoTerm, is_term_t, h]
def oddL (t : Nat × Int) : List D := [.tup [.int 8, .int 1], .tup [.int (-1), .int 1], .tup [.int 0, .int 0], .tup [.int 7, .int 2], .tup [.bl true, .int 1], .tup [.int 0, .bl true], .lst [.int 0, .int 1], .tup [.int 0], .tup [.int 0, .int 1, .int 1], .int 5, .non, .str "01", .tup [.int 0, .int (-2)],
  .tup [.int t.1, .int 1], .tup [.int t.1, .int (-1)], .tup [.int 0, .str "1"], .tup [.int (10 ^ 20), .int 1], .tup [.str "0", .int 1]]
theorem big_no {d : Int} : NoTerm (.tup [.int (10 ^ 20), .int d]) := no_val (by
  have : decide ((10 ^ 20 : Int) < 8) = false := by decide
  rw [this]; simp)
theorem odd_all {t : Nat × Int} {o : D} (h : o ∈ oddL t) : (NoTerm o ∨ o = eT (t.1, 1) ∨ o = eT (t.1, -1)) ∧ Pl 3 o := by
  simp only [oddL, List.mem_cons, List.not_mem_nil, or_false] at h
  rcases h with rfl | rfl | rfl | rfl | rfl | rfl | rfl | rfl | rfl | rfl | rfl | rfl | rfl | rfl | rfl | rfl | rfl | rfl
  · exact ⟨.inl (no_val (by decide)), by simp [lim_le]⟩
  · exact ⟨.inl (no_val (by decide)), by simp [lim_le]⟩
  · exact ⟨.inl (no_val (by decide)), by simp [lim_le]⟩
  · exact ⟨.inl (no_val (by decide)), by simp [lim_le]⟩
  · exact ⟨.inl (no_fst (is_integer_b _)), by simp [lim_le]⟩
  · exact ⟨.inl (no_snd (is_integer_b _)), by simp [lim_le]⟩
  · exact ⟨.inl no_lst, by simp [lim_le]⟩
  · exact ⟨.inl (no_cnt (by decide)), by simp [lim_le]⟩
  · exact ⟨.inl (no_cnt (by decide)), by simp [lim_le]⟩
  · exact ⟨.inl no_int, by simp [lim_le]⟩
  · exact ⟨.inl no_non, by simp [lim_le]⟩
  · exact ⟨.inl no_str, by simp [lim_le]; decide +kernel⟩
  · exact ⟨.inl (no_val (by decide)), by simp [lim_le]⟩
  · exact ⟨.inr (.inl rfl), by simp [lim_le]⟩
  · exact ⟨.inr (.inr rfl), by simp [lim_le]⟩
  · exact ⟨.inl (no_snd (is_integer_s _)), by simp [lim_le]; decide +kernel⟩
  · refine ⟨.inl big_no, ?_⟩
    generalize (10 ^ 20 : Int) = z
    simp [lim_le]
  · exact ⟨.inl (no_fst (is_integer_s _)), by simp [lim_le]; decide +kernel⟩
def mkL (m : D) : List D := [.int 8, .int (-1), m, .int (10 ^ 20), .bl true, .non]
theorem mk_all {t : Nat} {o : D} (h : o ∈ mkL (.int t)) : (NoTerm (up1 o) ∨ o = .int t) ∧ Pl 2 o := by
  simp only [mkL, List.mem_cons, List.not_mem_nil, or_false] at h
  rcases h with rfl | rfl | rfl | rfl | rfl | rfl
  · exact ⟨.inl (no_val (by decide)), trivial⟩
  · exact ⟨.inl (no_val (by decide)), trivial⟩
  · exact ⟨.inr rfl, trivial⟩
  · exact ⟨.inl big_no, trivial⟩
  · exact ⟨.inl (no_fst (is_integer_b _)), trivial⟩
  · exact ⟨.inl (no_fst is_integer_n), trivial⟩
/-- one of three terms is odd -/
theorem bad3 {t0 t1 t2 : Nat × Int} (h : OkR [t0, t1, t2]) (k : Nat) (hk : k < 3) {o : D} (ho : NoTerm o ∨ ∃ d : Int, (d = 1 ∨ d = -1) ∧ o = eT (([t0, t1, t2].getD ((k + 2) % 3) (0, 0)).1, d)) : BadR [] ([eT t0, eT t1, eT t2].set k o) := by
  have o0 := h.2 t0 (by simp)
  have o1 := h.2 t1 (by simp)
  have o2 := h.2 t2 (by simp)
  have n := h.1
  simp only [List.map_cons, List.map_nil, List.nodup_cons, List.mem_cons, List.not_mem_nil, or_false, not_or] at n
  obtain ⟨⟨n1, n2⟩, n3, _⟩ := n
  have : k = 0 ∨ k = 1 ∨ k = 2 := by omega
  rcases ho with ho | ⟨d, hd, rfl⟩
  · rcases this with rfl | rfl | rfl
    · exact .term ho
    · exact .next o0 (by simp) (.term ho)
    · exact .next o0 (by simp) (.next o1 (by simp; exact fun z => n1 z.symm) (.term ho))
  · rcases this with rfl | rfl | rfl
    · exact .next (t := (t2.1, d)) ⟨o2.1, hd⟩ (by simp) (.next o1 (by simpa using n3) (.dup o2 (by simp)))
    · exact .next o0 (by simp) (.dup (t := (t0.1, d)) ⟨o0.1, hd⟩ (by simp))
    · exact .next o0 (by simp) (.next o1 (by simp; exact fun z => n1 z.symm) (.dup (t := (t1.1, d)) ⟨o1.1, hd⟩ (by simp)))
end Lw

namespace Lw
open PySem L2 Dl PySem.Spec PyProof.Rows
abbrev refL (d : D) : List D := [.str "refused", d, .bl true]
theorem pl_up : ∀ {n : Nat} {d : D}, Pl n d → Pl (n + 1) d
  | 0, _, h => by simp [Pl] at h
  | n + 1, .non, _ => trivial
  | n + 1, .bl _, _ => trivial
  | n + 1, .int _, _ => trivial
  | n + 1, .str _, h => h
  | n + 1, .tup xs, h => by rw [pl_tup] at h ⊢; exact ⟨h.1, fun x hx => pl_up (h.2 x hx)⟩
  | n + 1, .lst xs, h => by rw [pl_lst] at h ⊢; exact ⟨h.1, fun x hx => pl_up (h.2 x hx)⟩
  | n + 1, .ty _, h => by simp [Pl] at h
  | n + 1, .scr _, h => by simp [Pl] at h
  | n + 1, .gl _, h => by simp [Pl] at h
  | n + 1, .obj _ _ _, h => by simp [Pl] at h
  | n + 1, .dic _ _, h => by simp [Pl] at h
theorem strR : PyData.strOk (Str.ofString "refused") = true := by decide +kernel
theorem pl_ref {n : Nat} {d : D} (h : Pl (n + 1) d) : Pl (n + 2) (.lst (refL d)) := by
  rw [pl_lst]
  refine ⟨lim_le (by simp), fun x hx => ?_⟩
  simp only [List.mem_cons, List.not_mem_nil, or_false] at hx
  rcases hx with rfl | rfl | rfl
  · rw [pl_str]; exact strR
  · exact h
  · trivial
theorem same_ref {d : D} (h : Pl 5 d) : f__law_same 6 [.val (.lst [.str (Str.ofString "refused"), d, .bl true]), .val (.lst [.str (Str.ofString "refused"), d, .bl true])] = .ok (.val (.bl true)) [none, none] := same_eq _ (pl_ref h)
theorem pl3 {n : Nat} {a b c : D} (h : Pl n a ∧ Pl n b ∧ Pl n c) : Pl (n + 1) (.tup [a, b, c]) := by
  rw [pl_tup]
  refine ⟨lim_le (by simp), fun x hx => ?_⟩
  simp only [List.mem_cons, List.not_mem_nil, or_false] at hx
  rcases hx with rfl | rfl | rfl
  · exact h.1
  · exact h.2.1
  · exact h.2.2
theorem rng2 (st : DSt) : itRng1 (dCons (dC (.int 2)) dNil) st = .ok [.int 0, .int 1] st := rng1_eq (r := .val (.int 2)) rfl rfl rfl
theorem s7 {sc bx k : Option S} {t0 t1 t2 : Nat × Int} (h : OkR [t0, t1, t2]) {a b c : D} (hb : BadR [] [a, b, c]) (hp : Pl 4 a ∧ Pl 4 b ∧ Pl 4 c) :
    b_law_7 [sc, bx, some (.own [eT t0, eT t1, eT t2]), k, none, some (.own [a, b, c]), none, none, none, none, none, none, none, none, none] = .nx [sc, bx, some (.own [eT t0, eT t1, eT t2]), k, none, none, none, none, none, none, none, none, none, none, none] := by
  have g : f_Rule___init__ [eT t0, eT t1, eT t2] = .ok ["terms"] [.tup [eT t0, eT t1, eT t2]] := rule_init [t0, t1, t2] h
  have x := rule_bad hb (lim_le (by simp))
  have a0 := ask0b g
  have a1 := ask1b (lim_le (by simp)) g
  have b0 := ask0xb x
  have b1 := ask1xb (lim_le (by simp)) x
  have q := same_eq (.tup [eT t0, eT t1, eT t2]) (pl3 ⟨by simp [lim_le], by simp [lim_le], by simp [lim_le]⟩)
  have r := same_ref (pl3 hp)
  generalize eT t0 = u0 at *
  generalize eT t1 = u1 at *
  generalize eT t2 = u2 at *
  simp [b_law_7, rng2, loop_cons, loop_nil, stepL, b_law_7l, b_law_7l_0, b_law_7l_1, a0, a1, b0, b1, q, r, lim_le]
theorem s8 {sc bx k g : Option S} : b_law_8 [sc, bx, g, k, none, none, none, none, none, none, none, none, none, none, none] = .nx [sc, bx, g, k, none, none, none, none, none, none, none, none, none, none, none] := by
  have g0 : f_Rule___init__ [] = .ok ["terms"] [.tup []] := rule_init [] ⟨by simp, by simp⟩
  have a := asc_ok (ds := []) (lim_le (by simp)) g0
  simp only [List.map_nil] at a
  have q := same_eq (.tup []) (by simp [lim_le])
  simp [b_law_8, a, q, f_Rule_listed, b_Rule_listed, b_Rule_listed_0, runD, startD, Arg.toS, retOf, outsOf, g0]
theorem s9 {sc bx k : Option S} {t0 t1 t2 : Nat × Int} : b_law_9 [sc, bx, some (.own [eT t0, eT t1, eT t2]), k, none, none, none, none, none, none, none, none, none, none, none] = .nx [sc, bx, some (.val (.lst [eT t0, eT t1, eT t2])), k, none, none, none, some (.own [.int t0.1, .int t1.1, .int t2.1]), none, none, none, none, none, none, none] := by
  have := lc_maps (fi := itSeq (dVar 2)) (t := .nm 13) (ft := tYesD) (fe := b_law_c1e) (vs := [13]) (st0 := [sc, bx, some (.own [eT t0, eT t1, eT t2]), k, none, none, none, none, none, none, none, none, none, none, none]) (st := [sc, bx, some (.val (.lst [eT t0, eT t1, eT t2])), k, none, none, none, none, none, none, none, none, none, none, none]) eT (fun t => nI t.1) (as := [t0, t1, t2]) (by simp) (lim_le (by simp)) (fun d hd acc ha => by simp [compD, wipeD, unwipe, b_law_c1e, ha])
  have e : b_law_c1 _ = _ := this
  simp [b_law_9, -eT_eq, e]
theorem c23 {sc bx g k : Option S} {ds : List D} (hl : ds.length ≤ lim) : dLcO 7 (.nm 14) tYesD (dTup (dCons (dVar 14) (dCons (dC (.int 1)) dNil))) [14] [sc, bx, g, k, none, none, none, some (.own ds), none, none, none, none, none, none, none] = .ok (.tmp (ds.map up1)) [sc, bx, g, k, none, none, none, some (.own ds), none, none, none, none, none, none, none] :=
  lcO_maps (fun d => d) up1 (as := ds) (by simp) hl (fun d hd acc ha => by simp [compD, wipeD, unwipe, ha])
theorem plu {a : D} (h : Pl 3 a) : Pl 4 (up1 a) := by
  rw [pl_tup]
  refine ⟨lim_le (by simp), fun x hx => ?_⟩
  simp only [List.mem_cons, List.not_mem_nil, or_false] at hx
  rcases hx with rfl | rfl
  · exact h
  · trivial
theorem s10 {sc bx k g : Option S} {a b c : D} (hi : f_Rule___init__ [up1 a, up1 b, up1 c] = .ok ["terms"] [.tup [up1 a, up1 b, up1 c]]) (hp : Pl 4 (up1 a) ∧ Pl 4 (up1 b) ∧ Pl 4 (up1 c)) :
    b_law_10 [sc, bx, g, k, none, none, none, some (.own [a, b, c]), none, none, none, none, none, none, none] = .nx [sc, bx, g, k, none, none, none, some (.own [a, b, c]), none, none, none, none, none, none, none] := by
  have e : b_law_c2 _ = _ := c23 (sc := sc) (bx := bx) (k := k) (g := g) (ds := [a, b, c]) (lim_le (by simp))
  have a2 := ask2b hi
  have q := same_refl 6 (.tup [up1 a, up1 b, up1 c]) (pl_up (pl3 hp))
  simp only [List.map_cons, List.map_nil] at e
  generalize up1 a = u0 at *
  generalize up1 b = u1 at *
  generalize up1 c = u2 at *
  simp [b_law_10, e, a2, q, lim_le]
theorem s12 {sc bx g : Option S} {a b c : D} :
    b_law_12 [sc, bx, g, none, none, none, none, some (.own [a, b, c]), none, none, none, none, none, none, none] = .nx [sc, bx, g, none, none, none, none, some (.own [a, b, c]), some (.val (.tup [up1 a, up1 b, up1 c])), none, none, none, none, none, none] := by
  have e : b_law_c3 _ = _ := c23 (sc := sc) (bx := bx) (k := none) (g := g) (ds := [a, b, c]) (lim_le (by simp))
  simp only [List.map_cons, List.map_nil] at e
  generalize up1 a = u0 at *
  generalize up1 b = u1 at *
  generalize up1 c = u2 at *
  simp [b_law_12, e, lim_le]
theorem s13 {sc bx g : Option S} {a b c : D} (hi : f_Rule___init__ [up1 a, up1 b, up1 c] = .exc (badX (.tup [up1 a, up1 b, up1 c]))) (hp : Pl 4 (up1 a) ∧ Pl 4 (up1 b) ∧ Pl 4 (up1 c)) :
    b_law_13 [sc, bx, g, none, none, none, none, some (.own [a, b, c]), some (.val (.tup [up1 a, up1 b, up1 c])), none, none, none, none, none, none] = .nx [sc, bx, g, none, none, none, none, none, none, none, none, none, none, none, none] := by
  have a2 := ask2xb hi
  have q := same_ref (pl3 hp)
  generalize up1 a = u0 at *
  generalize up1 b = u1 at *
  generalize up1 c = u2 at *
  simp [b_law_13, a2, q, lim_le]
end Lw

namespace Lw
open PySem L2 Dl PySem.Spec PyProof.Rows
theorem atm1 {a b c : D} : atI [a, b, c] (-1) = some c := rfl
theorem ix0 : ixN 3 0 = some 0 := rfl
theorem ix1 : ixN 3 1 = some 1 := rfl
theorem ix2 : ixN 3 2 = some 2 := rfl
theorem p20 : cPow 10 20 = true := by decide +kernel
theorem s34 {sc bx : Option S} {t0 t1 t2 : Nat × Int} {k : Nat} (hk : k < 3) :
    ∀ g : DS, dSeq b_law_3 (dSeq b_law_4 g) [sc, bx, some (.own [eT t0, eT t1, eT t2]), some (.val (.int k)), none, none, none, none, none, none, none, none, none, none, none] = g [sc, bx, some (.own [eT t0, eT t1, eT t2]), some (.val (.int k)), some (.val (.lst (oddL ([t0, t1, t2].getD ((k + 2) % 3) (0, 0))))), none, none, none, none, none, none, none, none, none, none] := by
  intro g
  have : k = 0 ∨ k = 1 ∨ k = 2 := by omega
  rcases this with rfl | rfl | rfl <;> simp [b_law_3, b_law_4, oddL, lim_le, p20, atm1, ix0, ix1, ix2]
theorem s56 {sc : Option S} {b : Bx} {r : List D} {k : Nat} {o : D} (hr : r.length = 3) (hk : k < 3) {od : List D} (ho : od[tkV b 18]? = some o) :
    ∀ g : DS, dSeq b_law_5 (dSeq b_law_6 g) [sc, some (.own b.enc), some (.own r), some (.val (.int k)), some (.val (.lst od)), none, none, none, none, none, none, none, none, none, none] = g [sc, some (.own (tkB b 18).enc), some (.own r), some (.val (.int k)), none, some (.own (r.set k o)), none, none, none, none, none, none, none, none, none] := by
  intro g
  have l : r.length ≤ lim := lim_le (by omega)
  have : k = 0 ∨ k = 1 ∨ k = 2 := by omega
  rcases this with rfl | rfl | rfl <;> simp [b_law_5, b_law_6, ho, hr, l, lim_le, ix0, ix1, ix2]
theorem s11 {sc g : Option S} {b : Bx} {m0 m1 m2 : Int} {k : Nat} (hk : k < 3) : ∃ o ∈ mkL (.int ([m0, m1, m2].getD ((k + 2) % 3) 0)),
    b_law_11 [sc, some (.own b.enc), g, some (.val (.int k)), none, none, none, some (.own [.int m0, .int m1, .int m2]), none, none, none, none, none, none, none] = .nx [sc, some (.own (tkB b 6).enc), g, none, none, none, none, some (.own ([.int m0, .int m1, .int m2].set k o)), none, none, none, none, none, none, none] := by
  have hj := tkV_lt b (n := 6) (by decide)
  have tk : f__law_take [.own b.enc, .val (.int 6)] = .ok (.val (.int (tkV b 6 : Nat))) [some (tkB b 6).enc, none] := take_lit b 6 (by decide) (by decide)
  generalize tkV b 6 = j at *
  refine ⟨(mkL (.int ([m0, m1, m2].getD ((k + 2) % 3) 0))).getD j .non, ?_, ?_⟩
  · generalize [m0, m1, m2].getD ((k + 2) % 3) 0 = z
    rw [List.getD_eq_getElem?_getD, List.getElem?_eq_getElem (show j < 6 from hj)]
    exact List.getElem_mem _
  have h3 : k = 0 ∨ k = 1 ∨ k = 2 := by omega
  have h6 : j = 0 ∨ j = 1 ∨ j = 2 ∨ j = 3 ∨ j = 4 ∨ j = 5 := by omega
  rcases h3 with rfl | rfl | rfl <;> rcases h6 with rfl | rfl | rfl | rfl | rfl | rfl <;> simp [b_law_11, tk, mkL, lim_le, p20, atm1, ix0, ix1, ix2]
/-! ### lists in terms -/
theorem s14l {sc bx : Option S} {t0 t1 t2 : Nat × Int} (h : OkR [t0, t1, t2]) {w : D} (hw : NoTerm w) (hp : Pl 4 w) :
    stepL (.nm 9) b_law_14l w [sc, bx, some (.val (.lst [eT t0, eT t1, eT t2])), none, none, none, none, none, none, none, none, none, none, none, none] = .nx [sc, bx, some (.val (.lst [eT t0, eT t1, eT t2])), none, none, none, none, none, none, none, none, none, none, none, none] := by
  have hb : BadR [] [eT t1, w, eT t2] := .next (h.2 t1 (by simp)) (by simp) (.term hw)
  have x := rule_bad hb (lim_le (by simp))
  have b0 := ask0x x
  have b1 := ask1x (lim_le (by simp)) x
  have r := same_ref (pl3 (a := eT t1) (b := w) (c := eT t2) (n := 4) ⟨by simp [lim_le], hp, by simp [lim_le]⟩)
  generalize eT t0 = u0 at *
  generalize eT t1 = u1 at *
  generalize eT t2 = u2 at *
  simp [stepL, b_law_14l, b_law_14l_0, rng2, loop_cons, loop_nil, b_law_14l_0l, b_law_14l_0l_0, b0, b1, r, lim_le]
theorem s14 {sc bx : Option S} {t0 t1 t2 : Nat × Int} (h : OkR [t0, t1, t2]) :
    b_law_14 [sc, bx, some (.val (.lst [eT t0, eT t1, eT t2])), none, none, none, none, none, none, none, none, none, none, none, none] = .nx [sc, bx, none, none, none, none, none, none, none, none, none, none, none, none, none] := by
  have l := loop_same (t := .nm 9) (body := b_law_14l) (e := fun d : D => d) (st := [sc, bx, some (.val (.lst [eT t0, eT t1, eT t2])), none, none, none, none, none, none, none, none, none, none, none, none]) [.tup [.lst [.int 0], .int 1], .tup [.int 0, .lst [.int 1]], .lst [eT t0]] (fun w hw => by
    simp only [List.mem_cons, List.not_mem_nil, or_false] at hw
    rcases hw with rfl | rfl | rfl
    · exact s14l h (no_fst (is_integer_l _)) (by simp [lim_le])
    · exact s14l h (no_snd (is_integer_l _)) (by simp [lim_le])
    · exact s14l h no_lst (by simp [lim_le]))
  simp only [List.map_cons, List.map_nil] at l
  generalize eT t0 = u0 at *
  generalize eT t1 = u1 at *
  generalize eT t2 = u2 at *
  simp [b_law_14, l, lim_le]
/-! ### eight terms -/
theorem s15 {sc : Option S} {b : Bx} : b_law_15 [sc, some (.own b.enc), none, none, none, none, none, none, none, none, none, none, none, none, none] = .nx [sc, some (.own (ruB b 8).enc), none, none, none, none, none, none, none, none, some (.own ((ruT b 8).map eT)), none, none, none, none] := by
  have e : f__law_rule [.own b.enc, .val (.int 8)] = .ok (.new ((ruT b 8).map eT)) [some (ruB b 8).enc, none] := law_rule_eq b 8 (by decide)
  simp [b_law_15, e]
theorem s16 {sc bx : Option S} {ts : List (Nat × Int)} (h : OkR ts) : b_law_16 [sc, bx, none, none, none, none, none, none, none, none, some (.own (ts.map eT)), none, none, none, none] = .nx [sc, bx, none, none, none, none, none, none, none, none, some (.own (ts.map eT)), none, none, none, none] := by
  have hl : (ts.map eT).length ≤ lim := by simpa using h.limL
  have a := ask1b hl (rule_init ts h)
  have q := same_eq (.tup (ts.map eT)) (pl_tupT h 3)
  generalize ts.map eT = ds at *
  simp [b_law_16, a, q, hl]
theorem s20 {sc bx : Option S} {ds : List D} (h : BadR [] ds) (hl : ds.length ≤ lim) (hp : ∀ x ∈ ds, Pl 4 x) : Tr (b_law_20 [sc, bx, none, none, none, none, none, none, none, none, some (.own ds), none, none, none, none]) := by
  have a := ask1xb hl (rule_bad h hl)
  have q := same_ref (d := .tup ds) (by rw [pl_tup]; exact ⟨hl, hp⟩)
  apply Tr.by_
  simp [b_law_20, a, q, hl, lim_le]
end Lw

namespace Lw
open PySem L2 Dl PySem.Spec PyProof.Rows
theorem s19 {sc : Option S} {ts : List (Nat × Int)} {i j : Nat} (hi : i < ts.length) (hj : j < ts.length) (hl : ts.length = 8) :
    b_law_19 [sc, none, none, none, none, none, none, none, none, none, some (.own (ts.map eT)), some (.val (.int i)), some (.val (.int j)), none, none] = .nx [sc, none, none, none, none, none, none, none, none, none, some (.own ((ts.set j (ts[i].1, ts[j].2)).map eT)), none, none, none, none] := by
  have e1 : (ts.map eT)[i]? = some (.tup [.int ts[i].1, .int ts[i].2]) := by simp [hi]
  have e2 : (ts.map eT)[j]? = some (.tup [.int ts[j].1, .int ts[j].2]) := by simp [hj]
  have e3 : (ts.set j (ts[i].1, ts[j].2)).map eT = (ts.map eT).set j (.tup [.int ts[i].1, .int ts[j].2]) := by simp [List.map_set]
  have e4 : ixN 8 (j : Int) = some j := by
    have : j = 0 ∨ j = 1 ∨ j = 2 ∨ j = 3 ∨ j = 4 ∨ j = 5 ∨ j = 6 ∨ j = 7 := by omega
    rcases this with rfl | rfl | rfl | rfl | rfl | rfl | rfl | rfl <;> rfl
  have e5 : (ts.map eT).length = 8 := by simp [hl]
  rw [e3]
  generalize ts[i].1 = a at *
  generalize ts[i].2 = a' at *
  generalize ts[j].1 = c at *
  generalize ts[j].2 = c' at *
  generalize ts.map eT = ds at *
  simp [b_law_19, e1, e2, e4, e5, lim_le]
theorem dup8 {ts : List (Nat × Int)} (h : OkR ts) {i j : Nat} (hi : i < ts.length) (hj : j < ts.length) (ne : i ≠ j) : BadR [] ((ts.set j (ts[i].1, ts[j].2)).map eT) := by
  refine dup_bad (fun t ht => ?_) (by simp) ?_
  · rcases List.mem_or_eq_of_mem_set ht with ht | rfl
    · exact h.2 t ht
    · exact ⟨(h.2 _ (List.getElem_mem hi)).1, (h.2 _ (List.getElem_mem hj)).2⟩
  · intro n
    rw [List.nil_append] at n
    have li : i < ((ts.set j (ts[i].1, ts[j].2)).map (·.1)).length := by simpa using hi
    have lj : j < ((ts.set j (ts[i].1, ts[j].2)).map (·.1)).length := by simpa using hj
    have pw := List.pairwise_iff_getElem.mp n
    rcases Nat.lt_or_gt_of_ne ne with z | z
    · exact pw i j li lj z (by simp [List.getElem_set, fun z : j = i => ne z.symm])
    · exact pw j i lj li z (by simp [List.getElem_set, fun z : j = i => ne z.symm])
theorem end8 {sc : Option S} {b : Bx} {ts : List (Nat × Int)} (h : OkR ts) (hl : ts.length = 8) :
    Tr (dSeq b_law_16 (dSeq b_law_17 (dSeq b_law_18 (dSeq b_law_19 b_law_20))) [sc, some (.own b.enc), none, none, none, none, none, none, none, none, some (.own (ts.map eT)), none, none, none, none]) := by
  refine Tr.seq (s16 h) ?_
  have k1 : f__law_take [.own b.enc, .val (.int 8)] = .ok (.val (.int (tkV b 8 : Nat))) [some (tkB b 8).enc, none] := take_lit b 8 (by decide) (by decide)
  have l1 := tkV_lt b (n := 8) (by decide)
  refine Tr.seq (s1 := [sc, some (.own (tkB b 8).enc), none, none, none, none, none, none, none, none, some (.own (ts.map eT)), some (.val (.int (tkV b 8 : Nat))), none, none, none]) (by simp [b_law_17, k1]) ?_
  generalize tkB b 8 = b2
  generalize tkV b 8 = i at *
  have k2 : f__law_take [.own b2.enc, .val (.int 7)] = .ok (.val (.int (tkV b2 7 : Nat))) [some (tkB b2 7).enc, none] := take_lit b2 7 (by decide) (by decide)
  have l2 := tkV_lt b2 (n := 7) (by decide)
  obtain ⟨j, hj⟩ : ∃ j : Nat, (i + 1 + tkV b2 7) % 8 = j := ⟨_, rfl⟩
  have hj2 : ((i : Int) + 1 + (tkV b2 7 : Nat)) % 8 = (j : Nat) := by omega
  have hjl : j < 8 := by omega
  have ne : i ≠ j := by omega
  refine Tr.seq (s1 := [sc, none, none, none, none, none, none, none, none, none, some (.own (ts.map eT)), some (.val (.int i)), some (.val (.int j)), none, none]) (by simp [b_law_18, k2, hj2, cPos]) ?_
  refine Tr.seq (s19 (hl ▸ l1) (hl ▸ hjl) hl) ?_
  refine s20 (dup8 h (hl ▸ l1) (hl ▸ hjl) ne) (by simpa [hl] using lim_le (n := 8) (by decide)) fun x hx => ?_
  exact pl_eT _ 2 x hx
theorem law_true (ns : List Int) (hn : ns.length ≤ 63) : ∃ outs, f_law [.val (.scr (ns.map .int))] = .ok (.val (.bl true)) outs := by
  have er := law_rule_eq (bx0 ns) 8 (Nat.le_refl 8)
  have okr := ruT_ok (bx0 ns) (Nat.le_refl 8)
  have hlen := ruT_len (bx0 ns) 8
  obtain ⟨rt, b1, hrt, hb1⟩ : ∃ rt b1, ruT (bx0 ns) 8 = rt ∧ ruB (bx0 ns) 8 = b1 := ⟨_, _, rfl, rfl⟩
  rw [hrt] at er okr hlen
  rw [hb1] at er
  have er' : f__law_rule [.own (bx0 ns).enc, .val (.int 8)] = .ok (.new (rt.map eT)) [some b1.enc, none] := er
  obtain ⟨t0, t1, t2, rest, rfl⟩ : ∃ t0 t1 t2 rest, rt = t0 :: t1 :: t2 :: rest := by
    match rt, hlen with
    | t0 :: t1 :: t2 :: rest, _ => exact ⟨t0, t1, t2, rest, rfl⟩
  have ok3 : OkR [t0, t1, t2] := okr.sub (by simp)
  have ecut : cutG ((t0 :: t1 :: t2 :: rest).map eT) none (some 3) = [eT t0, eT t1, eT t2] := by
    rw [show (some (3 : Int)) = some ((3 : Nat) : Int) from rfl, cut_to]
    rfl
  refine ⟨[none], ?_⟩
  have tr : Tr (b_law [some (.val (.scr (ns.map .int))), none, none, none, none, none, none, none, none, none, none, none, none, none, none]) := by
    refine Tr.seq (s1 := [some (.val (.scr (ns.map .int))), some (.own (bx0 ns).enc), none, none, none, none, none, none, none, none, none, none, none, none, none]) (by simp [b_law_0]) ?_
    refine Tr.seq (s1 := [some (.val (.scr (ns.map .int))), some (.own b1.enc), some (.own [eT t0, eT t1, eT t2]), none, none, none, none, none, none, none, none, none, none, none, none]) ?_ ?_
    · generalize (t0 :: t1 :: t2 :: rest).map eT = ds at *
      generalize eT t0 = u0 at *
      generalize eT t1 = u1 at *
      generalize eT t2 = u2 at *
      simp [b_law_1, er', slD, ecut, lim_le]
    have k1 : f__law_take [.own b1.enc, .val (.int 3)] = .ok (.val (.int (tkV b1 3 : Nat))) [some (tkB b1 3).enc, none] := take_lit b1 3 (by decide) (by decide)
    have l1 := tkV_lt b1 (n := 3) (by decide)
    refine Tr.seq (s1 := [some (.val (.scr (ns.map .int))), some (.own (tkB b1 3).enc), some (.own [eT t0, eT t1, eT t2]), some (.val (.int (tkV b1 3 : Nat))), none, none, none, none, none, none, none, none, none, none, none]) ?_ ?_
    · generalize eT t0 = u0 at *
      generalize eT t1 = u1 at *
      generalize eT t2 = u2 at *
      simp [b_law_2, k1]
    generalize tkB b1 3 = b2
    generalize tkV b1 3 = k at *
    generalize some (S.val (.scr (ns.map .int))) = sc
    refine Tr.of (s34 l1 _) ?_
    obtain ⟨o, ho⟩ : ∃ o, (oddL ([t0, t1, t2].getD ((k + 2) % 3) (0, 0)))[tkV b2 18]? = some o := ⟨_, List.getElem?_eq_getElem (show tkV b2 18 < 18 from tkV_lt b2 (by decide))⟩
    obtain ⟨o1, o2⟩ := odd_all (List.mem_of_getElem? ho)
    refine Tr.of (s56 rfl l1 ho _) ?_
    generalize tkB b2 18 = b3
    have bad := bad3 ok3 k l1 (o := o) (by
      rcases o1 with o1 | o1 | o1
      · exact .inl o1
      · exact .inr ⟨1, .inl rfl, o1⟩
      · exact .inr ⟨-1, .inr rfl, o1⟩)
    obtain ⟨a, b, c, hrow⟩ : ∃ a b c, [eT t0, eT t1, eT t2].set k o = [a, b, c] := by
      have : k = 0 ∨ k = 1 ∨ k = 2 := by omega
      rcases this with rfl | rfl | rfl <;> exact ⟨_, _, _, rfl⟩
    have pr : ∀ x ∈ [eT t0, eT t1, eT t2].set k o, Pl 4 x := fun x hx => by
      rcases List.mem_or_eq_of_mem_set hx with hx | rfl
      · exact pl_eT [t0, t1, t2] 2 x hx
      · exact pl_up o2
    rw [hrow] at bad pr ⊢
    refine Tr.seq (s7 ok3 bad ⟨pr a (by simp), pr b (by simp), pr c (by simp)⟩) ?_
    refine Tr.seq s8 ?_
    refine Tr.seq s9 ?_
    have up : OkR [(t0.1, 1), (t1.1, 1), (t2.1, 1)] := ⟨by simpa using ok3.1, fun t ht => by
      simp only [List.mem_cons, List.not_mem_nil, or_false] at ht
      rcases ht with rfl | rfl | rfl
      · exact ⟨(ok3.2 t0 (by simp)).1, .inl rfl⟩
      · exact ⟨(ok3.2 t1 (by simp)).1, .inl rfl⟩
      · exact ⟨(ok3.2 t2 (by simp)).1, .inl rfl⟩⟩
    refine Tr.seq (s10 (rule_init _ up) ⟨plu trivial, plu trivial, plu trivial⟩) ?_
    obtain ⟨m, hm, em⟩ := s11 (sc := sc) (g := some (.val (.lst [eT t0, eT t1, eT t2]))) (b := b3) (m0 := t0.1) (m1 := t1.1) (m2 := t2.1) l1
    refine Tr.seq em ?_
    generalize tkB b3 6 = b4
    have em2 : [(t0.1 : Int), t1.1, t2.1].getD ((k + 2) % 3) 0 = (([(t0.1, (1 : Int)), (t1.1, 1), (t2.1, 1)].getD ((k + 2) % 3) (0, 0)).1 : Nat) := by
      have : k = 0 ∨ k = 1 ∨ k = 2 := by omega
      rcases this with rfl | rfl | rfl <;> rfl
    rw [em2] at hm
    obtain ⟨m1, m2⟩ := mk_all hm
    have badm := bad3 up k l1 (o := up1 m) (by
      rcases m1 with m1 | m1
      · exact .inl m1
      · exact .inr ⟨1, .inl rfl, by rw [m1]; rfl⟩)
    obtain ⟨a, b, c, hrow, hup⟩ : ∃ a b c, [D.int t0.1, .int t1.1, .int t2.1].set k m = [a, b, c] ∧ [eT (t0.1, 1), eT (t1.1, 1), eT (t2.1, 1)].set k (up1 m) = [up1 a, up1 b, up1 c] := by
      have : k = 0 ∨ k = 1 ∨ k = 2 := by omega
      rcases this with rfl | rfl | rfl <;> exact ⟨_, _, _, rfl, rfl⟩
    have pm : ∀ x ∈ [D.int t0.1, .int t1.1, .int t2.1].set k m, Pl 3 x := fun x hx => by
      rcases List.mem_or_eq_of_mem_set hx with hx | rfl
      · simp only [List.mem_cons, List.not_mem_nil, or_false] at hx
        rcases hx with rfl | rfl | rfl <;> trivial
      · exact pl_up m2
    rw [hup] at badm
    rw [hrow] at pm ⊢
    refine Tr.seq s12 ?_
    refine Tr.seq (s13 (rule_bad badm (lim_le (by simp))) ⟨plu (pm a (by simp)), plu (pm b (by simp)), plu (pm c (by simp))⟩) ?_
    refine Tr.seq (s14 ok3) ?_
    refine Tr.seq s15 ?_
    exact end8 (ruT_ok b4 (Nat.le_refl 8)) (ruT_len b4 8)
  obtain ⟨s, hs⟩ := tr
  exact run_rt (r := .val (.bl true)) (st := s) hs rfl rfl
end Lw

namespace Lw
open PySem L2 Dl PySem.Spec PyProof.Rows
section
variable {w : World} {K : PySem.W.Frag} {mg : Str → Option Value} {base : Heap}
theorem okx_InvalidRule (T : FxG fa fn ex sx K mg) : FnR Pp w K mg base (L2.CX Pp w) 1 (supAd K "InvalidRule") (spE (He.ga K "InvalidRule") ["terms"]) :=
  initE1 (F := (sx_InvalidRule).nf K) (N := ["self", "terms", "__class__"]) (s0 := "self") (a1 := "terms") ⟨supB_ok (T.sd 0) (T.x 10), NdefX.nscope_by (show NdefX.nscB _ _ _ (SupD.scope sx_InvalidRule) = true by decide +kernel), T.f 23, rfl, fun _ _ _ us hl => match us, hl with | [_, _], _ => rfl, ⟨_, _, _, _, _, _, _, _, _, rfl, fun _ => rfl, fun _ => rfl, fun _ => rfl, fun _ => rfl⟩⟩ (T.no 24) (fun A outer s H E => ps_ost (pe_var rfl (.inl rfl)) (pe_var rfl (.inl rfl)))
theorem sc__law_box : FnScope N__law_box ["_law_script"] (defScope (top 14)) := ⟨rfl, rfl, rfl, by decide +kernel, rfl, by decide +kernel, by decide +kernel⟩
theorem ok__law_box (T : FxG fa fn ex sx K mg) : FnX Pp w K mg base 4 (He.ga K "_law_box") ["_law_script"] [] f__law_box := by
  obtain ⟨fd, F⟩ := T.says.def_ 0
  refine fnx0 (N := N__law_box) (k := 3) F sc__law_box (by decide) (F.bindsN (fun _ _ _ _ _ _ us hl => match us, hl with | [_], _ => rfl)) (fun cdv A outer s H E hr => ?_)
  have tk : Takes (cxOf (L2.CX Pp w) Pp w K mg base N__law_box "_law_box" (defScope (top 14)) (He.ga K "_law_box") cdv A outer s H E) (fun c d _ H' => E c d H') := takes_of rfl rfl rfl rfl
  have po : PassesOwn (model Pp w) (cxOf (L2.CX Pp w) Pp w K mg base N__law_box "_law_box" (defScope (top 14)) (He.ga K "_law_box") cdv A outer s H E).A (cxOf (L2.CX Pp w) Pp w K mg base N__law_box "_law_box" (defScope (top 14)) (He.ga K "_law_box") cdv A outer s H E).env (cxOf (L2.CX Pp w) Pp w K mg base N__law_box "_law_box" (defScope (top 14)) (He.ga K "_law_box") cdv A outer s H E).xe := passes_of rfl
  have nd : (N__law_box).Nodup := (sc__law_box).nd
  exact (ds_one (ds_ret (de_lst (da_cons (de_list (by rfl) (T.f 0) (da_cons (de_slice (de_var (pv 0)) do_none (do_some (de_int))) da_nil)) (da_cons (de_int) (da_cons (de_int) (da_cons (de_int) da_nil)))))))
theorem sc__law_take : FnScope N__law_take ["_law_box_here", "_law_size"] (defScope (top 15)) := ⟨rfl, rfl, rfl, by decide +kernel, rfl, by decide +kernel, by decide +kernel⟩
theorem ok__law_take (T : FxG fa fn ex sx K mg) : FnX Pp w K mg base 4 (He.ga K "_law_take") ["_law_box_here", "_law_size"] [] f__law_take := by
  obtain ⟨fd, F⟩ := T.says.def_ 1
  refine fnx0 (N := N__law_take) (k := 3) F sc__law_take (by decide) (F.bindsN (fun _ _ _ _ _ _ us hl => match us, hl with | [_, _], _ => rfl)) (fun cdv A outer s H E hr => ?_)
  have tk : Takes (cxOf (L2.CX Pp w) Pp w K mg base N__law_take "_law_take" (defScope (top 15)) (He.ga K "_law_take") cdv A outer s H E) (fun c d _ H' => E c d H') := takes_of rfl rfl rfl rfl
  have po : PassesOwn (model Pp w) (cxOf (L2.CX Pp w) Pp w K mg base N__law_take "_law_take" (defScope (top 15)) (He.ga K "_law_take") cdv A outer s H E).A (cxOf (L2.CX Pp w) Pp w K mg base N__law_take "_law_take" (defScope (top 15)) (He.ga K "_law_take") cdv A outer s H E).env (cxOf (L2.CX Pp w) Pp w K mg base N__law_take "_law_take" (defScope (top 15)) (He.ga K "_law_take") cdv A outer s H E).xe := passes_of rfl
  have nd : (N__law_take).Nodup := (sc__law_take).nd
  exact (ds_cons (ds_w [2] (ds_if (dt_w (dw_and (dt_c (c_eq (hu64 hr)) (de_item (de_var (pv 0)) (de_int) (fun _ _ => rfl)) (de_int) (nomark _)) (dw_and1 (dt_c (c_ltA (hu64 hr)) (de_item (de_var (pv 0)) (de_int) (fun _ _ => rfl)) (de_len (by rfl) (T.f 1) (da_cons (de_item (de_var (pv 0)) (de_int) (fun _ _ => rfl)) da_nil)) (nomark _))))) (ds_cons (ds_fz [2] (ds_set (i := 2) nd rfl (.inl rfl) (de_item (de_item (de_var (pv 0)) (de_int) (fun _ _ => rfl)) (de_item (de_var (pv 0)) (de_int) (fun _ _ => rfl)) (fun _ _ => rfl))))
      (ds_cons (ds_setIx (pv 0) (de_int) (de_add (de_item (de_var (pv 0)) (de_int) (fun _ _ => rfl)) (de_int)))
      (ds_one (ds_w [2] (ds_if (dt_c c_ge (de_var (pv 2)) (de_pow (de_int) (de_int)) (nomark _)) (ds_one (ds_w [2] (ds_setIx (pv 0) (de_int) (de_sub (de_var (pv 2)) (de_pow (de_int) (de_int)))))) (ds_one (ds_w [2] (ds_setIx (pv 0) (de_int) (de_mod (de_toint (by rfl) (T.f 2) (da_cons (de_add (de_mul (de_item (de_var (pv 0)) (de_int) (fun _ _ => rfl)) (de_int)) (de_var (pv 2))) da_nil)) (de_int)))))))))) ds_nil))
      (ds_cons (ds_w [3] (ds_if (dt_c (c_gtA (hu64 hr)) (de_item (de_var (pv 0)) (de_int) (fun _ _ => rfl)) (de_int) (nomark _)) (ds_cons (ds_set (i := 3) nd rfl (.inl rfl) (de_mod (de_toint (by rfl) (T.f 2) (da_cons (de_item (de_var (pv 0)) (de_int) (fun _ _ => rfl)) da_nil)) (de_var (pv 1))))
      (ds_cons (ds_setIx (pv 0) (de_int) (de_fdiv (de_item (de_var (pv 0)) (de_int) (fun _ _ => rfl)) (de_var (pv 1))))
      (ds_one (ds_ret (de_var (pv 3)))))) ds_nil))
      (ds_cons (ds_setIx (pv 0) (de_int) (de_mod (de_toint (by rfl) (T.f 2) (da_cons (de_add (de_mul (de_item (de_var (pv 0)) (de_int) (fun _ _ => rfl)) (de_int)) (de_int)) da_nil)) (de_int)))
      (ds_one (ds_ret (de_mod (de_toint (by rfl) (T.f 2) (da_cons (de_fdiv (de_item (de_var (pv 0)) (de_int) (fun _ _ => rfl)) (de_int)) da_nil)) (de_var (pv 1))))))))
theorem sc__law_rule : FnScope N__law_rule ["_law_box_here", "_law_count"] (defScope (top 16)) := ⟨rfl, rfl, rfl, by decide +kernel, rfl, by decide +kernel, by decide +kernel⟩
theorem ok__law_rule (T : FxG fa fn ex sx K mg) : FnX Pp w K mg base 6 (He.ga K "_law_rule") ["_law_box_here", "_law_count"] [] f__law_rule := by
  obtain ⟨fd, F⟩ := T.says.def_ 2
  refine fnx0 (N := N__law_rule) (k := 5) F sc__law_rule (by decide) (F.bindsN (fun _ _ _ _ _ _ us hl => match us, hl with | [_, _], _ => rfl)) (fun cdv A outer s H E hr => ?_)
  have tk : Takes (cxOf (L2.CX Pp w) Pp w K mg base N__law_rule "_law_rule" (defScope (top 16)) (He.ga K "_law_rule") cdv A outer s H E) (fun c d _ H' => E c d H') := takes_of rfl rfl rfl rfl
  have po : PassesOwn (model Pp w) (cxOf (L2.CX Pp w) Pp w K mg base N__law_rule "_law_rule" (defScope (top 16)) (He.ga K "_law_rule") cdv A outer s H E).A (cxOf (L2.CX Pp w) Pp w K mg base N__law_rule "_law_rule" (defScope (top 16)) (He.ga K "_law_rule") cdv A outer s H E).env (cxOf (L2.CX Pp w) Pp w K mg base N__law_rule "_law_rule" (defScope (top 16)) (He.ga K "_law_rule") cdv A outer s H E).xe := passes_of rfl
  have nd : (N__law_rule).Nodup := (sc__law_rule).nd
  exact (ds_cons (ds_set (i := 2) nd rfl (.inl rfl) (de_listRng rfl (by rfl) (T.f 0) (by rfl) (T.f 3) (de_var (pv 1))))
      (ds_cons (ds_set (i := 3) nd rfl (.inl rfl) (de_lst da_nil))
      (ds_cons (ds_w [2, 4, 5] (ds_for po rfl (di_rng1 (by rfl) (T.f 3) (da_cons (de_var (pv 1)) da_nil)) (dg_name (pg_name (i := 4) nd rfl (.inl rfl))) (dss_w [4, 5] ((ds_cons (ds_fz [5] (ds_set (i := 5) nd rfl (.inl rfl) (de_pop (pv 2) (de_callX (some 0) (ok__law_take T) (hr.mono (by omega)) tk (by rfl) (T.g 4) (da_cons (de_var (pv 0)) (da_cons (de_len (by rfl) (T.f 1) (da_cons (de_var (pv 2)) da_nil)) da_nil))))))
      (ds_one (ds_w [5] (ds_expr (de_app (pv 3) (de_tup (da_cons (de_var (pv 5)) (da_cons (de_sub (de_int) (de_mul (de_int) (de_callX (some 0) (ok__law_take T) (hr.mono (by omega)) tk (by rfl) (T.g 4) (da_cons (de_var (pv 0)) (da_cons (de_int) da_nil))))) da_nil))))))))))))
      (ds_one (ds_ret (de_var (pv 3)))))))
theorem sc__law_same : FnScope N__law_same ["_law_actual", "_law_due"] (defScope (top 17)) := ⟨rfl, rfl, rfl, by decide +kernel, rfl, by decide +kernel, by decide +kernel⟩
theorem ok__law_same (T : FxG fa fn ex sx K mg) : ∀ n, FnX Pp w K mg base (n + 4) (He.ga K "_law_same") ["_law_actual", "_law_due"] [] (f__law_same n)
  | 0 => by
    obtain ⟨fd, F⟩ := T.says.def_ 3
    exact fnx_bad (F.bindsN (fun _ _ _ _ _ _ us hl => match us, hl with | [_, _], _ => rfl)) F.kp
  | n + 1 => by
    obtain ⟨fd, F⟩ := T.says.def_ 3
    have ih := ok__law_same T n
    refine fnx0 (N := N__law_same) (k := n + 4) F sc__law_same (by decide) (F.bindsN (fun _ _ _ _ _ _ us hl => match us, hl with | [_, _], _ => rfl)) (fun cdv A outer s H E hr => ?_)
    have tk : Takes (cxOf (L2.CX Pp w) Pp w K mg base N__law_same "_law_same" (defScope (top 17)) (He.ga K "_law_same") cdv A outer s H E) (fun c d _ H' => E c d H') := takes_of rfl rfl rfl rfl
    have po : PassesOwn (model Pp w) (cxOf (L2.CX Pp w) Pp w K mg base N__law_same "_law_same" (defScope (top 17)) (He.ga K "_law_same") cdv A outer s H E).A (cxOf (L2.CX Pp w) Pp w K mg base N__law_same "_law_same" (defScope (top 17)) (He.ga K "_law_same") cdv A outer s H E).env (cxOf (L2.CX Pp w) Pp w K mg base N__law_same "_law_same" (defScope (top 17)) (He.ga K "_law_same") cdv A outer s H E).xe := passes_of rfl
    have nd : (N__law_same).Nodup := (sc__law_same).nd
    exact (ds_cons (ds_if (dt_c c_is (de_var (pv 1)) (de_non) (nomark _)) (ds_one (ds_ret (de_c c_is (de_var (pv 0)) (de_non) (nomark _)))) ds_nil)
      (ds_cons (ds_if (dt_val (de_isi .bool (by rfl) (T.f 6) (da_cons (de_var (pv 1)) (da_cons (de_ty (by rfl) (T.f 5) PyProof.Rows.boot_bool) da_nil)))) (ds_one (ds_ret ((de_and (de_isi .bool (by rfl) (T.f 6) (da_cons (de_var (pv 0)) (da_cons (de_ty (by rfl) (T.f 5) PyProof.Rows.boot_bool) da_nil))) (de_one (de_c (c_eq (hu64 hr)) (de_var (pv 0)) (de_var (pv 1)) (nomark _))))))) ds_nil)
      (ds_cons (ds_if (dt_val (de_isi .int (by rfl) (T.f 6) (da_cons (de_var (pv 1)) (da_cons (de_ty (by rfl) (T.f 2) PyProof.Rows.boot_int) da_nil)))) (ds_one (ds_ret ((de_and (de_isi .int (by rfl) (T.f 6) (da_cons (de_var (pv 0)) (da_cons (de_ty (by rfl) (T.f 2) PyProof.Rows.boot_int) da_nil))) (de_and (de_not (de_isi .bool (by rfl) (T.f 6) (da_cons (de_var (pv 0)) (da_cons (de_ty (by rfl) (T.f 5) PyProof.Rows.boot_bool) da_nil)))) (de_one (de_c (c_eq (hu64 hr)) (de_var (pv 0)) (de_var (pv 1)) (nomark _)))))))) ds_nil)
      (ds_cons (ds_if (dt_val (de_isi .str (by rfl) (T.f 6) (da_cons (de_var (pv 1)) (da_cons (de_ty (by rfl) (T.f 7) PyProof.Rows.boot_str) da_nil)))) (ds_one (ds_ret ((de_and (de_isi .str (by rfl) (T.f 6) (da_cons (de_var (pv 0)) (da_cons (de_ty (by rfl) (T.f 7) PyProof.Rows.boot_str) da_nil))) (de_one (de_c (c_eq (hu64 hr)) (de_var (pv 0)) (de_var (pv 1)) (nomark _))))))) ds_nil)
      (ds_cons (ds_if (dt_c (c_ne (hu64 hr)) (de_isi .tuple (by rfl) (T.f 6) (da_cons (de_var (pv 1)) (da_cons (de_ty (by rfl) (T.f 8) PyProof.Rows.boot_tuple) da_nil))) (de_isi .tuple (by rfl) (T.f 6) (da_cons (de_var (pv 0)) (da_cons (de_ty (by rfl) (T.f 8) PyProof.Rows.boot_tuple) da_nil))) (nomark _)) (ds_one (ds_ret (de_bl))) ds_nil)
      (ds_cons (ds_if (dt_w (dw_or (dt_c (c_ne (hu64 hr)) (de_isi .list (by rfl) (T.f 6) (da_cons (de_var (pv 1)) (da_cons (de_ty (by rfl) (T.f 0) PyProof.Rows.boot_list) da_nil))) (de_isi .list (by rfl) (T.f 6) (da_cons (de_var (pv 0)) (da_cons (de_ty (by rfl) (T.f 0) PyProof.Rows.boot_list) da_nil))) (nomark _)) (dw_or1 (dt_c (c_ne (hu64 hr)) (de_len (by rfl) (T.f 1) (da_cons (de_var (pv 0)) da_nil)) (de_len (by rfl) (T.f 1) (da_cons (de_var (pv 1)) da_nil)) (nomark _))))) (ds_one (ds_ret (de_bl))) ds_nil)
      (ds_cons (ds_w [2] (ds_for po rfl (di_rng1 (by rfl) (T.f 3) (da_cons (de_len (by rfl) (T.f 1) (da_cons (de_var (pv 1)) da_nil)) da_nil)) (dg_name (pg_name (i := 2) nd rfl (.inl rfl))) (dss_w [2] ((ds_one (ds_w [2] (ds_if (dt_not (dt_val (de_callX none ih (hr.mono (by omega)) tk (by rfl) (T.g 9) (da_cons (de_item (de_var (pv 0)) (de_var (pv 2)) (fun _ _ => rfl)) (da_cons (de_item (de_var (pv 1)) (de_var (pv 2)) (fun _ _ => rfl)) da_nil))))) (ds_one (ds_ret (de_bl))) ds_nil)))))))
      (ds_one (ds_ret (de_bl))))))))))
theorem sc_is_integer : FnScope N_is_integer ["value"] (defScope (top 6)) := ⟨rfl, rfl, rfl, by decide +kernel, rfl, by decide +kernel, by decide +kernel⟩
theorem ok_is_integer (T : FxG fa fn ex sx K mg) : FnX Pp w K mg base 4 (He.ga K "is_integer") ["value"] [] f_is_integer := by
  obtain ⟨fd, F⟩ := T.says.def_ 4
  refine fnx0 (N := N_is_integer) (k := 3) F sc_is_integer (by decide) (F.bindsN (fun _ _ _ _ _ _ us hl => match us, hl with | [_], _ => rfl)) (fun cdv A outer s H E hr => ?_)
  have tk : Takes (cxOf (L2.CX Pp w) Pp w K mg base N_is_integer "is_integer" (defScope (top 6)) (He.ga K "is_integer") cdv A outer s H E) (fun c d _ H' => E c d H') := takes_of rfl rfl rfl rfl
  have po : PassesOwn (model Pp w) (cxOf (L2.CX Pp w) Pp w K mg base N_is_integer "is_integer" (defScope (top 6)) (He.ga K "is_integer") cdv A outer s H E).A (cxOf (L2.CX Pp w) Pp w K mg base N_is_integer "is_integer" (defScope (top 6)) (He.ga K "is_integer") cdv A outer s H E).env (cxOf (L2.CX Pp w) Pp w K mg base N_is_integer "is_integer" (defScope (top 6)) (He.ga K "is_integer") cdv A outer s H E).xe := passes_of rfl
  have nd : (N_is_integer).Nodup := (sc_is_integer).nd
  exact (ds_one (ds_ret ((de_and (de_isi .int (by rfl) (T.f 6) (da_cons (de_var (pv 0)) (da_cons (de_ty (by rfl) (T.f 2) PyProof.Rows.boot_int) da_nil))) (de_one (de_not (de_isi .bool (by rfl) (T.f 6) (da_cons (de_var (pv 0)) (da_cons (de_ty (by rfl) (T.f 5) PyProof.Rows.boot_bool) da_nil)))))))))
theorem sc_is_term : FnScope N_is_term ["value", "count"] (defScope (top 8)) := ⟨rfl, rfl, rfl, by decide +kernel, rfl, by decide +kernel, by decide +kernel⟩
theorem ok_is_term (T : FxG fa fn ex sx K mg) : FnX Pp w K mg base 6 (He.ga K "is_term") ["value", "count"] [] f_is_term := by
  obtain ⟨fd, F⟩ := T.says.def_ 5
  refine fnx0 (N := N_is_term) (k := 5) F sc_is_term (by decide) (F.bindsN (fun _ _ _ _ _ _ us hl => match us, hl with | [_, _], _ => rfl)) (fun cdv A outer s H E hr => ?_)
  have tk : Takes (cxOf (L2.CX Pp w) Pp w K mg base N_is_term "is_term" (defScope (top 8)) (He.ga K "is_term") cdv A outer s H E) (fun c d _ H' => E c d H') := takes_of rfl rfl rfl rfl
  have po : PassesOwn (model Pp w) (cxOf (L2.CX Pp w) Pp w K mg base N_is_term "is_term" (defScope (top 8)) (He.ga K "is_term") cdv A outer s H E).A (cxOf (L2.CX Pp w) Pp w K mg base N_is_term "is_term" (defScope (top 8)) (He.ga K "is_term") cdv A outer s H E).env (cxOf (L2.CX Pp w) Pp w K mg base N_is_term "is_term" (defScope (top 8)) (He.ga K "is_term") cdv A outer s H E).xe := passes_of rfl
  have nd : (N_is_term).Nodup := (sc_is_term).nd
  exact (ds_cons (ds_if (dt_w (dw_or (dt_not (dt_val (de_isi .tuple (by rfl) (T.f 6) (da_cons (de_var (pv 0)) (da_cons (de_ty (by rfl) (T.f 8) PyProof.Rows.boot_tuple) da_nil))))) (dw_or1 (dt_c (c_ne (hu64 hr)) (de_len (by rfl) (T.f 1) (da_cons (de_var (pv 0)) da_nil)) (de_int) (nomark _))))) (ds_one (ds_ret (de_bl))) ds_nil)
      (ds_cons (ds_setT (dg_tup rfl (dgs_cons (pg_name (i := 2) nd rfl (.inl rfl)) (dgs_cons (pg_name (i := 3) nd rfl (.inl rfl)) dgs_nil))) (de_var (pv 0)))
      (ds_cons (ds_if (dt_w (dw_or (dt_not (dt_val (de_callX none (ok_is_integer T) (hr.mono (by omega)) tk (by rfl) (T.g 10) (da_cons (de_var (pv 2)) da_nil)))) (dw_or1 (dt_not (dt_val (de_callX none (ok_is_integer T) (hr.mono (by omega)) tk (by rfl) (T.g 10) (da_cons (de_var (pv 3)) da_nil))))))) (ds_one (ds_ret (de_bl))) ds_nil)
      (ds_one (ds_ret ((de_and (de_chain i_le i_lt (de_int) (de_var (pv 2)) (de_var (pv 1))) (de_one ((de_or (de_c (c_eq (hu64 hr)) (de_var (pv 3)) (de_int) (nomark _)) (de_one (de_c (c_eq (hu64 hr)) (de_var (pv 3)) (de_neg (de_int)) (nomark _)))))))))))))
theorem sc_Rule___init__ : FnScope N_Rule___init__ ["self", "terms"] (defScope (inC (top 12) 0)) := ⟨rfl, rfl, rfl, by decide +kernel, rfl, by decide +kernel, by decide +kernel⟩
theorem ok_Rule___init__ (T : FxG fa fn ex sx K mg) : InitY Pp w K mg base 8 (He.ma K (He.ga K "Rule") "__init__") "Rule" f_Rule___init__ := by
  obtain ⟨fd, F⟩ := T.says.def_ 6
  refine fnInitS (N := N_Rule___init__) (s0 := "self") (ps := []) (pv := "terms") (k := 7) F sc_Rule___init__ (by decide) (fun _ _ _ _ _ _ => StX.bind_star1 (B := fun l => bindArgs _ ⟨l, []⟩) (fun _ => rfl) (fun _ _ _ => rfl)) (fun cdv A outer s H E hr => ?_)
  have tk : Takes (cxOf (L2.CX Pp w) Pp w K mg base N_Rule___init__ "Rule.__init__" (defScope (inC (top 12) 0)) (He.ma K (He.ga K "Rule") "__init__") cdv A outer s H E) (fun c d _ H' => E c d H') := takes_of rfl rfl rfl rfl
  have po : PassesOwn (model Pp w) (cxOf (L2.CX Pp w) Pp w K mg base N_Rule___init__ "Rule.__init__" (defScope (inC (top 12) 0)) (He.ma K (He.ga K "Rule") "__init__") cdv A outer s H E).A (cxOf (L2.CX Pp w) Pp w K mg base N_Rule___init__ "Rule.__init__" (defScope (inC (top 12) 0)) (He.ma K (He.ga K "Rule") "__init__") cdv A outer s H E).env (cxOf (L2.CX Pp w) Pp w K mg base N_Rule___init__ "Rule.__init__" (defScope (inC (top 12) 0)) (He.ma K (He.ga K "Rule") "__init__") cdv A outer s H E).xe := passes_of rfl
  have nd : (N_Rule___init__).Nodup := (sc_Rule___init__).nd
  exact (dn_cons (dn_of (ds_set (i := 2) nd rfl (.inl rfl) (de_lst da_nil)))
      (dn_cons (dn_of (ds_w [2, 3] (ds_for po rfl (di_seq (de_var (pv 1))) (dg_name (pg_name (i := 3) nd rfl (.inl rfl))) (dss_w [3] ((ds_cons (ds_if (dt_w (dw_or (dt_not (dt_val (de_callX none (ok_is_term T) (hr.mono (by omega)) tk (by rfl) (T.g 12) (da_cons (de_var (pv 3)) (da_cons (de_gint (by rfl) (T.i 11)) da_nil))))) (dw_or1 (dt_c (c_in (hu65 hr)) (de_item (de_var (pv 3)) (de_int) (fun _ _ => rfl)) (de_var (pv 2)) (by rfl))))) (ds_one (ds_raise (oexB_ok (T.x 0)) (T.meth 13).at_ (beq_iff_eq.mp (T.meth 13).fn) (okx_InvalidRule T) rfl tk (hr.mono (by omega)) (by rfl) (T.g 14) (da_cons (de_var (pv 1)) da_nil))) ds_nil)
      (ds_one (ds_w [3] (ds_expr (de_app (pv 2) (de_item (de_var (pv 3)) (de_int) (fun _ _ => rfl))))))))))))
      (dn_one (dn_self (pv 0) (T.cls 15) (T.no 16) (de_tuple (by rfl) (T.f 8) (da_cons (de_var (pv 1)) da_nil))))))
theorem sc_Rule_ascending : FnScope N_Rule_ascending ["marks"] (defScope (inC (top 12) 2)) := ⟨rfl, rfl, rfl, by decide +kernel, rfl, by decide +kernel, by decide +kernel⟩
theorem ok_Rule_ascending (T : FxG fa fn ex sx K mg) : FnY Pp w K mg base 10 (He5.wf K (He.ga K "Rule") "staticmethod" "ascending") f_Rule_ascending := by
  obtain ⟨fd, F⟩ := T.says.def_ 7
  refine fnStar (N := N_Rule_ascending) (ps := []) (pv := "marks") (k := 9) F sc_Rule_ascending (by decide) (fun _ _ _ _ _ _ => bind_star0 (B := fun l => bindArgs _ ⟨l, []⟩) rfl (fun _ _ => rfl)) (fun cdv A outer s H E hr => ?_)
  have tk : Takes (cxOf (L2.CX Pp w) Pp w K mg base N_Rule_ascending "Rule.ascending" (defScope (inC (top 12) 2)) (He5.wf K (He.ga K "Rule") "staticmethod" "ascending") cdv A outer s H E) (fun c d _ H' => E c d H') := takes_of rfl rfl rfl rfl
  have po : PassesOwn (model Pp w) (cxOf (L2.CX Pp w) Pp w K mg base N_Rule_ascending "Rule.ascending" (defScope (inC (top 12) 2)) (He5.wf K (He.ga K "Rule") "staticmethod" "ascending") cdv A outer s H E).A (cxOf (L2.CX Pp w) Pp w K mg base N_Rule_ascending "Rule.ascending" (defScope (inC (top 12) 2)) (He5.wf K (He.ga K "Rule") "staticmethod" "ascending") cdv A outer s H E).env (cxOf (L2.CX Pp w) Pp w K mg base N_Rule_ascending "Rule.ascending" (defScope (inC (top 12) 2)) (He5.wf K (He.ga K "Rule") "staticmethod" "ascending") cdv A outer s H E).xe := passes_of rfl
  have nd : (N_Rule_ascending).Nodup := (sc_Rule_ascending).nd
  exact (ds_cons (ds_fz [1] (ds_setLc (i := 1) rfl nd rfl rfl (sw_true rfl rfl rfl (by decide +kernel)) (own := [("mark", 2)]) (di_seq (de_var (pv 0))) (blkOk_by (own := [("mark", 2)]) (N := N_Rule_ascending) (sc := defScope (inC (top 12) 2)) (by decide +kernel)) (fun _ _ _ _ _ => (dg_name (pg_name (i := 2) nd rfl (.inl rfl)))) (fun _ _ _ _ _ => dl_nil) (fun _ _ _ _ _ => (de_tup (da_cons (de_var (pv 2)) (da_cons (de_int) da_nil))))))
      (ds_one (ds_ret (de_makeS (T.mkr 18) (ok_Rule___init__ T) (hr.mono (by omega)) tk (by rfl) (T.g 17) (de_var (pv 1))))))
theorem sc_Rule_listed : FnScope N_Rule_listed ["cls", "terms"] (defScope (inC (top 12) 1)) := ⟨rfl, rfl, rfl, by decide +kernel, rfl, by decide +kernel, by decide +kernel⟩
theorem ok_Rule_listed (T : FxG fa fn ex sx K mg) : FnX Pp w K mg base 10 (He5.wf K (He.ga K "Rule") "classmethod" "listed") ["cls", "terms"] [] f_Rule_listed := by
  obtain ⟨fd, F⟩ := T.says.def_ 8
  refine fnx0 (N := N_Rule_listed) (k := 9) F sc_Rule_listed (by decide) (F.bindsN (fun _ _ _ _ _ _ us hl => match us, hl with | [_, _], _ => rfl)) (fun cdv A outer s H E hr => ?_)
  have tk : Takes (cxOf (L2.CX Pp w) Pp w K mg base N_Rule_listed "Rule.listed" (defScope (inC (top 12) 1)) (He5.wf K (He.ga K "Rule") "classmethod" "listed") cdv A outer s H E) (fun c d _ H' => E c d H') := takes_of rfl rfl rfl rfl
  have po : PassesOwn (model Pp w) (cxOf (L2.CX Pp w) Pp w K mg base N_Rule_listed "Rule.listed" (defScope (inC (top 12) 1)) (He5.wf K (He.ga K "Rule") "classmethod" "listed") cdv A outer s H E).A (cxOf (L2.CX Pp w) Pp w K mg base N_Rule_listed "Rule.listed" (defScope (inC (top 12) 1)) (He5.wf K (He.ga K "Rule") "classmethod" "listed") cdv A outer s H E).env (cxOf (L2.CX Pp w) Pp w K mg base N_Rule_listed "Rule.listed" (defScope (inC (top 12) 1)) (He5.wf K (He.ga K "Rule") "classmethod" "listed") cdv A outer s H E).xe := passes_of rfl
  have nd : (N_Rule_listed).Nodup := (sc_Rule_listed).nd
  exact (ds_one (ds_ret (de_makeLS (pv 0) (T.mkr 18) (ok_Rule___init__ T) (hr.mono (by omega)) tk (de_var (pv 1)))))
theorem sc__law_ask : FnScope N__law_ask ["_law_way", "_law_row"] (defScope (top 18)) := ⟨rfl, rfl, rfl, by decide +kernel, rfl, by decide +kernel, by decide +kernel⟩
theorem ok__law_ask (T : FxG fa fn ex sx K mg) : FnX Pp w K mg base 12 (He.ga K "_law_ask") ["_law_way", "_law_row"] [] f__law_ask := by
  obtain ⟨fd, F⟩ := T.says.def_ 9
  refine fnx0 (N := N__law_ask) (k := 11) F sc__law_ask (by decide) (F.bindsN (fun _ _ _ _ _ _ us hl => match us, hl with | [_, _], _ => rfl)) (fun cdv A outer s H E hr => ?_)
  have tk : Takes (cxOf (L2.CX Pp w) Pp w K mg base N__law_ask "_law_ask" (defScope (top 18)) (He.ga K "_law_ask") cdv A outer s H E) (fun c d _ H' => E c d H') := takes_of rfl rfl rfl rfl
  have po : PassesOwn (model Pp w) (cxOf (L2.CX Pp w) Pp w K mg base N__law_ask "_law_ask" (defScope (top 18)) (He.ga K "_law_ask") cdv A outer s H E).A (cxOf (L2.CX Pp w) Pp w K mg base N__law_ask "_law_ask" (defScope (top 18)) (He.ga K "_law_ask") cdv A outer s H E).env (cxOf (L2.CX Pp w) Pp w K mg base N__law_ask "_law_ask" (defScope (top 18)) (He.ga K "_law_ask") cdv A outer s H E).xe := passes_of rfl
  have nd : (N__law_ask).Nodup := (sc__law_ask).nd
  exact (ds_one (ds_wt [2] (ds_try (i := 2) rfl rfl nd rfl rfl ⟨by rfl, by decide, .inl (T.g 14)⟩ tk (exm_list (c := "InvalidRule") [("ShelfError", false), ("InvalidRule", true), ("InvalidText", false)] ⟨(T.x 7), (T.x 8), (T.x 9), trivial⟩) (fun W' pn xe tk po => (ds_cons (ds_if (dt_c (c_eq (hu64 hr)) (de_var (pv 0)) (de_int) (nomark _)) (ds_one (ds_ret (de_fld (de_make (T.mkr 18) (ok_Rule___init__ T) (hr.mono (by omega)) tk (by rfl) (T.g 17) (da_cons (de_item (de_var (pv 1)) (de_int) (fun _ _ => rfl)) (da_cons (de_item (de_var (pv 1)) (de_int) (fun _ _ => rfl)) (da_cons (de_item (de_var (pv 1)) (de_int) (fun _ _ => rfl)) da_nil)))) (T.cls 15) (T.no 16)))) ds_nil)
      (ds_cons (ds_if (dt_c (c_eq (hu64 hr)) (de_var (pv 0)) (de_int) (nomark _)) (ds_one (ds_ret (de_fld (de_cmeth (de_gl (by rfl) (T.g 17)) (T.x 1) (ok_Rule_listed T).y (hr.mono (by omega)) tk (da_cons (de_list (by rfl) (T.f 0) (da_cons (de_var (pv 1)) da_nil)) da_nil)) (T.cls 15) (T.no 16)))) ds_nil)
      (ds_one (ds_ret (de_fld (de_smeth (de_gl (by rfl) (T.g 17)) (T.x 2) (ok_Rule_ascending T) (hr.mono (by omega)) tk (da_cons (de_item (de_var (pv 1)) (de_int) (fun _ _ => rfl)) (da_cons (de_item (de_var (pv 1)) (de_int) (fun _ _ => rfl)) (da_cons (de_item (de_var (pv 1)) (de_int) (fun _ _ => rfl)) da_nil)))) (T.cls 15) (T.no 16)))))))
      (fun a oe cls d pn hz hf => (letI : ExI := ⟨some (a, cls, d)⟩; (ds_one (ds_ret (de_lst (da_cons (de_str) (da_cons (de_exf (T.x 3) (T.x 4) hz hf (pv 2)) (da_cons (de_isx (T.x 5) (T.x 6) hz hf (pv 2) (by rfl) (T.g 19) (by rfl) (T.f 6)) da_nil)))))))))))
theorem sc_law : FnScope N_law ["_law_script"] (defScope (top 19)) := ⟨rfl, rfl, rfl, by decide +kernel, rfl, by decide +kernel, by decide +kernel⟩
theorem ok_law (T : FxG fa fn ex sx K mg) : ∃ fd : FuncData, (∀ (s : Shared) (v : Value), BindsTo s fd ⟨[v], []⟩ [("_law_script", v)]) ∧ ∀ base : Heap, FnOk Pp w K mg base (L2.CX Pp w) 14 (He.ga K "law") fd ["_law_script"] (spD K 1 f_law) := by
  obtain ⟨fd, F⟩ := T.says.def_ 10
  refine ⟨fd, fun s v => FunD.bindsA (ps := ["_law_script"]) F (fun _ _ _ _ _ _ us hl => match us, hl with | [_], _ => rfl) s [v] rfl, fun base => fn_ok (N := N_law) (k := 13) F sc_law (by decide) (fun cdv A outer s H E hr => ?_)⟩
  have tk : Takes (cxOf (L2.CX Pp w) Pp w K mg base N_law "law" (defScope (top 19)) (He.ga K "law") cdv A outer s H E) (fun c d _ H' => E c d H') := takes_of rfl rfl rfl rfl
  have po : PassesOwn (model Pp w) (cxOf (L2.CX Pp w) Pp w K mg base N_law "law" (defScope (top 19)) (He.ga K "law") cdv A outer s H E).A (cxOf (L2.CX Pp w) Pp w K mg base N_law "law" (defScope (top 19)) (He.ga K "law") cdv A outer s H E).env (cxOf (L2.CX Pp w) Pp w K mg base N_law "law" (defScope (top 19)) (He.ga K "law") cdv A outer s H E).xe := passes_of rfl
  have nd : (N_law).Nodup := (sc_law).nd
  exact (ds_cons (ds_set (i := 1) nd rfl (.inl rfl) (de_callX none (ok__law_box T) (hr.mono (by omega)) tk (by rfl) (T.g 20) (da_cons (de_var (pv 0)) da_nil)))
      (ds_cons (ds_set (i := 2) nd rfl (.inl rfl) (de_slice (de_callX (some 0) (ok__law_rule T) (hr.mono (by omega)) tk (by rfl) (T.g 21) (da_cons (de_var (pv 1)) (da_cons (de_int) da_nil))) do_none (do_some (de_int))))
      (ds_cons (ds_fz [3] (ds_set (i := 3) nd rfl (.inl rfl) (de_callX (some 0) (ok__law_take T) (hr.mono (by omega)) tk (by rfl) (T.g 4) (da_cons (de_var (pv 1)) (da_cons (de_int) da_nil)))))
      (ds_cons (ds_fz [4] (ds_set (i := 4) nd rfl (.inl rfl) (de_lst (da_cons (de_tup (da_cons (de_int) (da_cons (de_int) da_nil))) (da_cons (de_tup (da_cons (de_neg (de_int)) (da_cons (de_int) da_nil))) (da_cons (de_tup (da_cons (de_int) (da_cons (de_int) da_nil))) (da_cons (de_tup (da_cons (de_int) (da_cons (de_int) da_nil))) (da_cons (de_tup (da_cons (de_bl) (da_cons (de_int) da_nil))) (da_cons (de_tup (da_cons (de_int) (da_cons (de_bl) da_nil))) (da_cons (de_lst (da_cons (de_int) (da_cons (de_int) da_nil))) (da_cons (de_tup (da_cons (de_int) da_nil)) (da_cons (de_tup (da_cons (de_int) (da_cons (de_int) (da_cons (de_int) da_nil)))) (da_cons (de_int) (da_cons (de_non) (da_cons (de_str) (da_cons (de_tup (da_cons (de_int) (da_cons (de_neg (de_int)) da_nil))) da_nil))))))))))))))))
      (ds_cons (ds_fz [4] (ds_set (i := 4) nd rfl (.inl rfl) (de_add (de_var (pv 4)) (de_lst (da_cons (de_tup (da_cons (de_item (de_item (de_var (pv 2)) (de_sub (de_var (pv 3)) (de_int)) (fun _ _ => rfl)) (de_int) (fun _ _ => rfl)) (da_cons (de_int) da_nil))) (da_cons (de_tup (da_cons (de_item (de_item (de_var (pv 2)) (de_sub (de_var (pv 3)) (de_int)) (fun _ _ => rfl)) (de_int) (fun _ _ => rfl)) (da_cons (de_neg (de_int)) da_nil))) (da_cons (de_tup (da_cons (de_int) (da_cons (de_str) da_nil))) (da_cons (de_tup (da_cons (de_pow (de_int) (de_int)) (da_cons (de_int) da_nil))) (da_cons (de_tup (da_cons (de_str) (da_cons (de_int) da_nil))) da_nil)))))))))
      (ds_cons (ds_set (i := 5) nd rfl (.inl rfl) (de_list (by rfl) (T.f 0) (da_cons (de_var (pv 2)) da_nil)))
      (ds_cons (ds_w [4] (ds_setIx (pv 5) (de_var (pv 3)) (de_item (de_var (pv 4)) (de_callX (some 0) (ok__law_take T) (hr.mono (by omega)) tk (by rfl) (T.g 4) (da_cons (de_var (pv 1)) (da_cons (de_int) da_nil))) (fun _ _ => rfl))))
      (ds_cons (ds_w [5, 6] (ds_for po rfl (di_rng1 (by rfl) (T.f 3) (da_cons (de_int) da_nil)) (dg_name (pg_name (i := 6) nd rfl (.inl rfl))) (dss_w [6] ((ds_cons (ds_if (dt_not (dt_val (de_callX none (ok__law_same T 6) (hr.mono (by omega)) tk (by rfl) (T.g 9) (da_cons (de_callXB 1 (ok__law_ask T) (hr.mono (by omega)) tk (by rfl) (T.g 22) (da_cons (de_var (pv 6)) (da_cons (de_var (pv 2)) da_nil))) (da_cons (de_tuple (by rfl) (T.f 8) (da_cons (de_var (pv 2)) da_nil)) da_nil))))) (ds_one (ds_ret (de_bl))) ds_nil)
      (ds_one (ds_w [6] (ds_if (dt_not (dt_val (de_callX none (ok__law_same T 6) (hr.mono (by omega)) tk (by rfl) (T.g 9) (da_cons (de_callXB 1 (ok__law_ask T) (hr.mono (by omega)) tk (by rfl) (T.g 22) (da_cons (de_var (pv 6)) (da_cons (de_var (pv 5)) da_nil))) (da_cons (de_lst (da_cons (de_str) (da_cons (de_tuple (by rfl) (T.f 8) (da_cons (de_var (pv 5)) da_nil)) (da_cons (de_bl) da_nil)))) da_nil))))) (ds_one (ds_ret (de_bl))) ds_nil))))))))
      (ds_cons (ds_if (dt_w (dw_or (dt_not (dt_val (de_callX none (ok__law_same T 6) (hr.mono (by omega)) tk (by rfl) (T.g 9) (da_cons (de_fld (de_smeth0 (de_gl (by rfl) (T.g 17)) (T.x 2) (ok_Rule_ascending T) (hr.mono (by omega)) tk) (T.cls 15) (T.no 16)) (da_cons (de_tup da_nil) da_nil))))) (dw_or1 (dt_not (dt_val (de_callX none (ok__law_same T 6) (hr.mono (by omega)) tk (by rfl) (T.g 9) (da_cons (de_fld (de_cmeth (de_gl (by rfl) (T.g 17)) (T.x 1) (ok_Rule_listed T).y (hr.mono (by omega)) tk (da_cons (de_lst da_nil) da_nil)) (T.cls 15) (T.no 16)) (da_cons (de_tup da_nil) da_nil)))))))) (ds_one (ds_ret (de_bl))) ds_nil)
      (ds_cons (ds_setLc (i := 7) rfl nd rfl rfl (sw_true rfl rfl rfl (by decide +kernel)) (own := [("_law_term", 13)]) (di_seq (de_var (pv 2))) (blkOk_by (own := [("_law_term", 13)]) (N := N_law) (sc := defScope (top 19)) (by decide +kernel)) (fun _ _ _ _ _ => (dg_name (pg_name (i := 13) nd rfl (.inl rfl)))) (fun _ _ _ _ _ => dl_nil) (fun _ _ _ _ _ => (de_item (de_var (pv 13)) (de_int) (fun _ _ => rfl))))
      (ds_cons (ds_if (dt_not (dt_val (de_callX none (ok__law_same T 6) (hr.mono (by omega)) tk (by rfl) (T.g 9) (da_cons (de_callXB 1 (ok__law_ask T) (hr.mono (by omega)) tk (by rfl) (T.g 22) (da_cons (de_int) (da_cons (de_var (pv 7)) da_nil))) (da_cons (de_tuple (by rfl) (T.f 8) (da_cons (de_lcO rfl nd (own := [("_law_mark", 14)]) (pv 7) (blkOk_by (own := [("_law_mark", 14)]) (N := N_law) (sc := defScope (top 19)) (by decide +kernel)) (fun _ _ _ _ _ => (dg_name (pg_name (i := 14) nd rfl (.inl rfl)))) (fun _ _ _ _ _ => dl_nil) (fun _ _ _ _ _ => (de_tup (da_cons (de_var (pv 14)) (da_cons (de_int) da_nil))))) da_nil)) da_nil))))) (ds_one (ds_ret (de_bl))) ds_nil)
      (ds_cons (ds_w [3] (ds_setIx (pv 7) (de_var (pv 3)) (de_item (de_lst (da_cons (de_int) (da_cons (de_neg (de_int)) (da_cons (de_item (de_var (pv 7)) (de_sub (de_var (pv 3)) (de_int)) (fun _ _ => rfl)) (da_cons (de_pow (de_int) (de_int)) (da_cons (de_bl) (da_cons (de_non) da_nil))))))) (de_callX (some 0) (ok__law_take T) (hr.mono (by omega)) tk (by rfl) (T.g 4) (da_cons (de_var (pv 1)) (da_cons (de_int) da_nil))) (fun _ _ => rfl))))
      (ds_cons (ds_fz [8] (ds_set (i := 8) nd rfl (.inl rfl) (de_tuple (by rfl) (T.f 8) (da_cons (de_lcO rfl nd (own := [("_law_mark", 14)]) (pv 7) (blkOk_by (own := [("_law_mark", 14)]) (N := N_law) (sc := defScope (top 19)) (by decide +kernel)) (fun _ _ _ _ _ => (dg_name (pg_name (i := 14) nd rfl (.inl rfl)))) (fun _ _ _ _ _ => dl_nil) (fun _ _ _ _ _ => (de_tup (da_cons (de_var (pv 14)) (da_cons (de_int) da_nil))))) da_nil))))
      (ds_cons (ds_w [7, 8] (ds_if (dt_not (dt_val (de_callX none (ok__law_same T 6) (hr.mono (by omega)) tk (by rfl) (T.g 9) (da_cons (de_callXB 1 (ok__law_ask T) (hr.mono (by omega)) tk (by rfl) (T.g 22) (da_cons (de_int) (da_cons (de_var (pv 7)) da_nil))) (da_cons (de_lst (da_cons (de_str) (da_cons (de_var (pv 8)) (da_cons (de_bl) da_nil)))) da_nil))))) (ds_one (ds_ret (de_bl))) ds_nil))
      (ds_cons (ds_w [2, 6, 9] (ds_for po rfl (di_seq (de_lst (da_cons (de_tup (da_cons (de_lst (da_cons (de_int) da_nil)) (da_cons (de_int) da_nil))) (da_cons (de_tup (da_cons (de_int) (da_cons (de_lst (da_cons (de_int) da_nil)) da_nil))) (da_cons (de_lst (da_cons (de_item (de_var (pv 2)) (de_int) (fun _ _ => rfl)) da_nil)) da_nil))))) (dg_name (pg_name (i := 9) nd rfl (.inl rfl))) (dss_w [6, 9] ((ds_one (ds_w [6, 9] (ds_for po rfl (di_rng1 (by rfl) (T.f 3) (da_cons (de_int) da_nil)) (dg_name (pg_name (i := 6) nd rfl (.inl rfl))) (dss_w [6] ((ds_one (ds_w [6] (ds_if (dt_not (dt_val (de_callX none (ok__law_same T 6) (hr.mono (by omega)) tk (by rfl) (T.g 9) (da_cons (de_callXB 1 (ok__law_ask T) (hr.mono (by omega)) tk (by rfl) (T.g 22) (da_cons (de_var (pv 6)) (da_cons (de_lst (da_cons (de_item (de_var (pv 2)) (de_int) (fun _ _ => rfl)) (da_cons (de_var (pv 9)) (da_cons (de_item (de_var (pv 2)) (de_int) (fun _ _ => rfl)) da_nil)))) da_nil))) (da_cons (de_lst (da_cons (de_str) (da_cons (de_tup (da_cons (de_item (de_var (pv 2)) (de_int) (fun _ _ => rfl)) (da_cons (de_var (pv 9)) (da_cons (de_item (de_var (pv 2)) (de_int) (fun _ _ => rfl)) da_nil)))) (da_cons (de_bl) da_nil)))) da_nil))))) (ds_one (ds_ret (de_bl))) ds_nil))))))))))))
      (ds_cons (ds_set (i := 10) nd rfl (.inl rfl) (de_callX (some 0) (ok__law_rule T) (hr.mono (by omega)) tk (by rfl) (T.g 21) (da_cons (de_var (pv 1)) (da_cons (de_int) da_nil))))
      (ds_cons (ds_if (dt_not (dt_val (de_callX none (ok__law_same T 6) (hr.mono (by omega)) tk (by rfl) (T.g 9) (da_cons (de_callXB 1 (ok__law_ask T) (hr.mono (by omega)) tk (by rfl) (T.g 22) (da_cons (de_int) (da_cons (de_var (pv 10)) da_nil))) (da_cons (de_tuple (by rfl) (T.f 8) (da_cons (de_var (pv 10)) da_nil)) da_nil))))) (ds_one (ds_ret (de_bl))) ds_nil)
      (ds_cons (ds_fz [11] (ds_set (i := 11) nd rfl (.inl rfl) (de_callX (some 0) (ok__law_take T) (hr.mono (by omega)) tk (by rfl) (T.g 4) (da_cons (de_var (pv 1)) (da_cons (de_int) da_nil)))))
      (ds_cons (ds_w [1] (ds_fz [12] (ds_set (i := 12) nd rfl (.inl rfl) (de_mod (de_toint (by rfl) (T.f 2) (da_cons (de_add (de_add (de_var (pv 11)) (de_int)) (de_callX (some 0) (ok__law_take T) (hr.mono (by omega)) tk (by rfl) (T.g 4) (da_cons (de_var (pv 1)) (da_cons (de_int) da_nil)))) da_nil)) (de_int)))))
      (ds_cons (ds_w [11, 12] (ds_setIx (pv 10) (de_var (pv 12)) (de_tup (da_cons (de_item (de_item (de_var (pv 10)) (de_var (pv 11)) (fun _ _ => rfl)) (de_int) (fun _ _ => rfl)) (da_cons (de_item (de_item (de_var (pv 10)) (de_var (pv 12)) (fun _ _ => rfl)) (de_int) (fun _ _ => rfl)) da_nil)))))
      (ds_one (ds_ret (de_callX none (ok__law_same T 6) (hr.mono (by omega)) tk (by rfl) (T.g 9) (da_cons (de_callXB 1 (ok__law_ask T) (hr.mono (by omega)) tk (by rfl) (T.g 22) (da_cons (de_int) (da_cons (de_var (pv 10)) da_nil))) (da_cons (de_lst (da_cons (de_str) (da_cons (de_tuple (by rfl) (T.f 8) (da_cons (de_var (pv 10)) da_nil)) (da_cons (de_bl) da_nil)))) da_nil)))))))))))))))))))))))))
end
end Lw

namespace Lw
open PySem L2 Dl PySem.Spec PyProof.Rows
/-! ### the head -/
abbrev Rw : PySem.W.OpenRow := PySem.W.OpenLaw.row PySem.Challenge.rw_shelfterms_k08_rule_refusals
abbrev hk : PySem.W.Hook := hookG 5 fa fn ex sx
def ob (s : PySem.W.SharedT) : (He.AlD × Bool) × List FnS := obsG 5 fa fn ex sx (HandSHeadRun.getT s)
theorem ob_eq (s : PySem.W.SharedT) : ob s = hk.obs s.abs := obsG_eq (HandSHeadRun.getT_eq s)
def loose : List PySem.Str := (["_wall", "__name__", "ShelfError", "InvalidRule", "InvalidText", "is_integer", "is_term", "MOST_MARKS", "WORDS", "Rule", "_law_box", "_law_take", "_law_rule", "_law_same", "_law_ask"] : List PySem.Str)
theorem run (w : World) : HandSHeadRun.RunEq Rw (PySem.W.view Rw.prog [19]) hk ob 20000 loose w :=
  PySem.W.byRow2 "special-get-raises" (P := fun w => HandSHeadRun.RunEq Rw (PySem.W.view Rw.prog [19]) hk ob 20000 loose w) (fun w os => by kernel_rfl) (fun w os => by kernel_rfl) w
end Lw
open PySem PySem.W PySem.Calls PyProof.Rows
set_option maxRecDepth 100000 in
set_option maxHeartbeats 0 in
theorem PySem.Challenge.cw_shelfterms_k08_rule_refusals_holds : PySem.Challenge.rw_shelfterms_k08_rule_refusals.Holds := by
  w_on; o_law
  refine HandSHeadRun.head_any (r := OpenLaw.row PySem.Challenge.rw_shelfterms_k08_rule_refusals) (q := view (OpenLaw.row PySem.Challenge.rw_shelfterms_k08_rule_refusals).prog [19]) (H := Lw.hk) (ob := Lw.ob) (M := 20000) (loose := Lw.loose) (d := HandSHeadRun.topDef (OpenLaw.row PySem.Challenge.rw_shelfterms_k08_rule_refusals).prog 19) (kwd := []) Lw.ob_eq
    (by kernel_rfl) (fun s => by kernel_rfl) Lw.run (by kernel_rfl) (by kernel_rfl) (by kernel_rfl) (by rfl) (by first | assumption | decide +kernel) (by decide +kernel) ⟨rfl, rfl, rfl, rfl, rfl, by decide +kernel⟩ ?hw ?hc
  case hw => w_witness2
  case hc =>
    refine Dl.walk_ofX (l := PySem.Challenge.rw_shelfterms_k08_rule_refusals) (n := 63) (k := 14) (x := "_law_script") rfl (by decide) (by kernel_rfl) ⟨rfl, by decide, by decide⟩ ?F
    intro w mg fa h Y G hmg0
    obtain ⟨K, KX, c, c2, c3⟩ := Y
    have hmg : mg ("law" : PySem.Str) = some (.ref fa) := by
      have e : (HandSHeadRun.topDef (OpenLaw.row PySem.Challenge.rw_shelfterms_k08_rule_refusals).prog 19).name = ("law" : PySem.Str) := by kernel_rfl
      rw [← e]
      exact hmg0
    have T : Dl.FxG Lw.fa Lw.fn Lw.ex Lw.sx K mg := ⟨⟨c, c2, h, KX, G⟩, c3⟩
    have e := hmg.symm.trans (T.g 25)
    cases e
    obtain ⟨fd, hb, hF⟩ := Lw.ok_law (w := w) T
    exact ⟨K, fd, Lw.f_law, KX, hb, Lw.law_true, fun base _ _ => hF base⟩
#print axioms PySem.Challenge.cw_shelfterms_k08_rule_refusals_holds
